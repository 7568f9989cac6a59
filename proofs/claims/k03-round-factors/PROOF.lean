import PyProof.Rows.All
import PySem.Str
import PyProof.P3Statements
import PySem.Builtin.IntDigits
import HandS.ForMost
import HandS.ForExc
import HandS.Defaults
import HandS.Wide
import HandS.Flow
import HandS.Gcd
import HandS.IsInst
import HandS.ExcInit
import HandS.CallSlots
import HandS.WideBits
import HandS.Deep
import HandS.WideMore
import HandS.EndBits
import Wide.All
import OpenK.AllK
import Wide.FinOn
import PySem.Challenge.RW_everystretch_k03_round_factors
set_option Elab.async false
set_option linter.all false
/-! EvD: what a def computes, over data without addresses: values D, slots, environments, results R, and one combinator a construct. Plain Lean. -/
namespace EV
open PySem
noncomputable section

/-! ### lists, as the kernel reckons them well -/
def nth {α : Type} (xs : List α) : Nat → Option α := List.rec (motive := fun _ => Nat → Option α) (fun _ => none) (fun x _ ih n => Nat.rec (motive := fun _ => Option α) (some x) (fun m _ => ih m) n) xs
def setN {α : Type} (xs : List α) (v : α) : Nat → List α := List.rec (motive := fun _ => Nat → List α) (fun _ => []) (fun x r ih n => Nat.rec (motive := fun _ => List α) (v :: r) (fun m _ => x :: ih m) n) xs
def snoc {α : Type} (xs : List α) (v : α) : List α := List.rec (motive := fun _ => List α) [v] (fun x _ ih => x :: ih) xs
def len {α : Type} (xs : List α) : Nat := List.rec (motive := fun _ => Nat) 0 (fun _ _ ih => ih + 1) xs
theorem nth_eq {α : Type} : ∀ (xs : List α) (n : Nat), nth xs n = xs[n]?
  | [], n => by simp [nth]
  | x :: xs, 0 => by
    rw [List.getElem?_cons_zero]
    rfl
  | x :: xs, n + 1 => by
    rw [List.getElem?_cons_succ, ← nth_eq xs n]
    rfl
theorem setN_eq {α : Type} (v : α) : ∀ (xs : List α) (n : Nat), setN xs v n = xs.set n v
  | [], n => rfl
  | x :: xs, 0 => rfl
  | x :: xs, n + 1 => by
    rw [List.set_cons_succ, ← setN_eq v xs n]
    rfl
theorem snoc_eq {α : Type} (v : α) : ∀ (xs : List α), snoc xs v = xs ++ [v]
  | [] => rfl
  | x :: xs => by
    rw [List.cons_append, ← snoc_eq v xs]
    rfl
theorem len_eq {α : Type} : ∀ (xs : List α), len xs = xs.length
  | [] => rfl
  | x :: xs => by
    rw [List.length_cons, ← len_eq xs]
    rfl

/-- a value with all that hangs on it -/
inductive D where
  | non
  | bl (b : Bool)
  | int (i : Int)
  | str (x : Str)
  | lst (xs : List D)
  | tup (xs : List D)
  | ins (c : Nat) (fs : List D)
  | scr (ns : List Int)
  deriving Inhabited
/-- an object that one name alone holds -/
inductive O where
  | l (xs : List D)
  | i (c : Nat) (fs : List (Str × D))
  | d (kvs : List ((Int ⊕ Str) × D))
/-- a local name: not known | a value that stays as it is | an object of one's own (k: the k-th thing handed in to be changed) -/
inductive Slot where
  | no
  | sh (d : D)
  | ow (k : Option Nat) (o : O)
abbrev Env := List Slot
/-- nothing told | a value | an exception: its class, its fields -/
inductive R (α : Type) where
  | bot
  | ok (a : α) (e : Env)
  | ex (c : Nat) (fs : List D) (e : Env)
def R.bind {α β : Type} (m : R α) (k : α → Env → R β) : R β := match m with
  | .bot => .bot
  | .ok a e => k a e
  | .ex c fs e => .ex c fs e
/-- as bind; nothing told of exceptions -/
def R.bindB {α β : Type} (m : R α) (k : α → Env → R β) : R β := match m with
  | .ok a e => k a e
  | _ => .bot
def R.of {α β : Type} (o : Option α) (k : α → R β) : R β := match o with
  | some a => k a
  | none => .bot
abbrev FE := Env → R D
abbrev FT := Env → R Bool
abbrev FO := Env → R O
abbrev FA := Env → R (List D)
inductive Fl where
  | nx | br | ct
  | rt (d : D)
  | ro (o : O)
abbrev FS := Env → R Fl
/-- what a call of a def gives -/
inductive FR where
  | bot
  | ret (d : D)
  | rto (o : O)
  | rse (c : Nat) (fs : List D)
/-- the same of a def whose first argument is an object that it changes -/
inductive FQ where
  | bot
  | ret (d : D) (o : O)
  | rse (c : Nat) (fs : List D)

def O.toD? : O → Option D
  | .l xs => some (.lst xs)
  | .i _ _ => none
  | .d _ => none

/-! ### expressions -/
def cC (d : D) : FE := fun ε => .ok d ε
/-- a name; an own list is from now on shared -/
def nm (i : Nat) : FE := fun ε => match ε[i]? with
  | some (.sh d) => .ok d ε
  | some (.ow none (.l xs)) => .ok (.lst xs) (ε.set i (.sh (.lst xs)))
  | _ => .bot
/-- a name whose own object moves out -/
def nmO (i : Nat) : FO := fun ε => match ε[i]? with
  | some (.ow none o) => .ok o (ε.set i .no)
  | _ => .bot
def frz (f : FO) : FE := fun ε => (f ε).bind fun o ε1 => .of o.toD? fun d => .ok d ε1
def bin (g : D → D → Option D) (fa fb : FE) : FE := fun ε => (fa ε).bind fun x ε1 => (fb ε1).bind fun y ε2 => .of (g x y) fun z => .ok z ε2
def un (g : D → Option D) (fa : FE) : FE := fun ε => (fa ε).bind fun x ε1 => .of (g x) fun z => .ok z ε1
def aNil : FA := fun ε => .ok [] ε
def aCons (fa : FE) (fr : FA) : FA := fun ε => (fa ε).bind fun x ε1 => (fr ε1).bind fun xs ε2 => .ok (x :: xs) ε2
def bi (g : List D → Option D) (fr : FA) : FE := fun ε => (fr ε).bind fun xs ε1 => .of (g xs) fun z => .ok z ε1
def biO (g : List D → Option O) (fr : FA) : FO := fun ε => (fr ε).bind fun xs ε1 => .of (g xs) fun z => .ok z ε1
def binO (g : D → D → Option O) (fa fb : FE) : FO := fun ε => (fa ε).bind fun x ε1 => (fb ε1).bind fun y ε2 => .of (g x y) fun z => .ok z ε2
def FR.toE (ε : Env) : FR → R D
  | .bot => .bot
  | .ret d => .ok d ε
  | .rto o => .of o.toD? fun d => .ok d ε
  | .rse c fs => .ex c fs ε
def FR.toO (ε : Env) : FR → R O
  | .rto o => .ok o ε
  | .rse c fs => .ex c fs ε
  | _ => .bot
def call (m : List D → FR) (fr : FA) : FE := fun ε => (fr ε).bind fun xs ε1 => (m xs).toE ε1
def callO (m : List D → FR) (fr : FA) : FO := fun ε => (fr ε).bind fun xs ε1 => (m xs).toO ε1
/-- the name is known -/
def has (ε : Env) (i : Nat) : Bool := match ε[i]? with
  | some (.sh _) => true
  | some (.ow _ _) => true
  | _ => false
def hasL (ε : Env) (i : Nat) : Bool := match ε[i]? with
  | some (.ow _ (.l _)) => true
  | _ => false
/-- f(x, ..): f changes the own object at the name x -/
def callQ (m : O → List D → FQ) (i : Nat) (fr : FA) : FE := fun ε => if has ε i = true then (fr ε).bind fun xs ε1 => match ε1[i]? with
  | some (.ow k o) => (match m o xs with
    | .ret d o' => .ok d (ε1.set i (.ow k o'))
    | _ => .bot)
  | _ => .bot
  else .bot
def getN {α : Type} (xs : List α) (i : Int) : Option α :=
  if 0 ≤ i then nth xs i.toNat else if -(xs.length : Int) ≤ i then nth xs (i + xs.length).toNat else none
theorem getN_def {α : Type} (xs : List α) (i : Int) : getN xs i = if 0 ≤ i then xs[i.toNat]? else if -(xs.length : Int) ≤ i then xs[(i + xs.length).toNat]? else none := by
  unfold getN
  simp only [nth_eq]
def fld (ix : Nat → Option Nat) (fa : FE) : FE := fun ε => (fa ε).bind fun x ε1 => match x with
  | .ins c fs => .of (ix c) fun j => .of fs[j]? fun z => .ok z ε1
  | _ => .bot
/-- self.f where self is being made -/
def fldN (c i : Nat) (f : Str) : FE := fun ε => match ε[i]? with
  | some (.ow _ (.i c' fs)) => if c' = c then .of (fs.lookup f) fun z => .ok z ε else .bot
  | _ => .bot
def ifE (t : FT) (a b : FE) : FE := fun ε => (t ε).bind fun c ε1 => if c = true then a ε1 else b ε1

def line : Nat := 16000000
def lstO (fr : FA) : FO := fun ε => (fr ε).bind fun xs ε1 => if xs.length ≤ line then .ok (.l xs) ε1 else .bot
def tupE (fr : FA) : FE := fun ε => (fr ε).bind fun xs ε1 => if xs.length ≤ line then .ok (.tup xs) ε1 else .bot

/-! ### tests -/
def tru : D → Option Bool
  | .non => some false
  | .bl b => some b
  | .int i => some (i != 0)
  | .str x => if x.length ≤ 16000000 then some ((x.length : Int) != 0) else none
  | .lst xs => some (!xs.isEmpty)
  | .tup xs => some (!xs.isEmpty)
  | _ => none
def tB (fa : FE) : FT := fun ε => (fa ε).bind fun x ε1 => match x with
  | .bl b => .ok b ε1
  | _ => .bot
def tT (fa : FE) : FT := fun ε => (fa ε).bind fun x ε1 => .of (tru x) fun b => .ok b ε1
def tAnd (s t : FT) : FT := fun ε => (s ε).bind fun c ε1 => if c = true then t ε1 else .ok false ε1
def tOr (s t : FT) : FT := fun ε => (s ε).bind fun c ε1 => if c = true then .ok true ε1 else t ε1
def tNot (s : FT) : FT := fun ε => (s ε).bind fun c ε1 => .ok (!c) ε1
def eB (t : FT) : FE := fun ε => (t ε).bind fun c ε1 => .ok (.bl c) ε1
def andV (fa fb : FE) : FE := fun ε => (fa ε).bind fun x ε1 => .of (tru x) fun c => if c = true then fb ε1 else .ok x ε1
def orV (fa fb : FE) : FE := fun ε => (fa ε).bind fun x ε1 => .of (tru x) fun c => if c = true then .ok x ε1 else fb ε1

/-! ### targets -/
abbrev FG := D → Env → Option Env
def gN (i : Nat) : FG := fun d ε => some (ε.set i (.sh d))
abbrev FGs := List D → Env → Option Env
def gsNil : FGs := fun ds ε => match ds with
  | [] => some ε
  | _ => none
def gsCons (h : FG) (r : FGs) : FGs := fun ds ε => match ds with
  | [] => none
  | d :: ds => match h d ε with
    | some ε1 => r ds ε1
    | none => none
def gT (hs : FGs) : FG := fun d ε => match d with
  | .tup xs => hs xs ε
  | _ => none

/-! ### statements -/
def sNx : FS := fun ε => .ok .nx ε
def sBr : FS := fun ε => .ok .br ε
def sCt : FS := fun ε => .ok .ct ε
def seq (g1 g2 : FS) : FS := fun ε => (g1 ε).bind fun fl ε1 => match fl with
  | .nx => g2 ε1
  | fl => .ok fl ε1
def asg (h : FG) (fa : FE) : FS := fun ε => (fa ε).bind fun d ε1 => .of (h d ε1) fun ε2 => .ok .nx ε2
def asgO (i : Nat) (fo : FO) : FS := fun ε => (fo ε).bind fun o ε1 => .ok .nx (ε1.set i (.ow none o))
def exprS (fa : FE) : FS := fun ε => (fa ε).bind fun _ ε1 => .ok .nx ε1
def ret (fa : FE) : FS := fun ε => (fa ε).bind fun d ε1 => .ok (.rt d) ε1
def retO (fo : FO) : FS := fun ε => (fo ε).bind fun o ε1 => .ok (.ro o) ε1
def retN : FS := fun ε => .ok (.rt .non) ε
def ifS (t : FT) (a b : FS) : FS := fun ε => (t ε).bind fun c ε1 => if c = true then a ε1 else b ε1
def ixP (n : Nat) (i : Int) : Option Nat := if 0 ≤ i then (if i < n then some i.toNat else none) else if -(n : Int) ≤ i then some (i + n).toNat else none
/-- x[e] = v at a name of an own list -/
def setI (i : Nat) (fi fv : FE) : FS := fun ε => (fv ε).bind fun v ε1 => if has ε1 i = true then (fi ε1).bind fun k ε2 => match k with
  | .int n => (match ε2[i]? with
    | some (.ow kk (.l xs)) => .of (ixP (len xs) n) fun j => .ok .nx (ε2.set i (.ow kk (.l (setN xs v j))))
    | _ => .bot)
  | _ => .bot
  else .bot
/-- x[e] op= v -/
def augI (g : D → D → Option D) (i : Nat) (fi fv : FE) : FS := fun ε => if has ε i = true then (fi ε).bind fun k ε1 => match k with
  | .int n => (match ε1[i]? with
    | some (.ow _ (.l xs)) => .of (getN xs n) fun x => (fv ε1).bind fun y ε2 => .of (g x y) fun z => (match ε2[i]? with
      | some (.ow kk (.l ys)) => .of (ixP (len ys) n) fun j => .ok .nx (ε2.set i (.ow kk (.l (setN ys z j))))
      | _ => .bot)
    | _ => .bot)
  | _ => .bot
  else .bot
/-- self.f = v where self is being made -/
def setF (c i : Nat) (f : Str) (fv : FE) : FS := fun ε => (fv ε).bind fun v ε1 => match ε1[i]? with
  | some (.ow k (.i c' fs)) => if c' = c ∧ (fs.lookup f).isNone ∧ fs.length < 100 then .ok .nx (ε1.set i (.ow k (.i c' (fs ++ [(f, v)])))) else .bot
  | _ => .bot
def app (i : Nat) (fa : FE) : FS := fun ε => if hasL ε i = true then (fa ε).bind fun x ε1 => match ε1[i]? with
  | some (.ow k (.l xs)) => if len xs < line then .ok .nx (ε1.set i (.ow k (.l (snoc xs x)))) else .bot
  | _ => .bot
  else .bot
def aug (g : D → D → Option D) (i : Nat) (fa : FE) : FS := fun ε => match ε[i]? with
  | some (.sh x) => (fa ε).bind fun y ε1 => .of (g x y) fun z => .ok .nx (ε1.set i (.sh z))
  | _ => .bot
def rse (c : Nat) (fr : FA) : FS := fun ε => (fr ε).bind fun xs ε1 => .ex c xs ε1
def forL (h : FG) (body : FS) : List D → FS
  | [], ε => .ok .nx ε
  | x :: xs, ε => .of (h x ε) fun ε1 => (body ε1).bind fun fl ε2 => match fl with
    | .nx => forL h body xs ε2
    | .ct => forL h body xs ε2
    | .br => .ok .nx ε2
    | fl => .ok fl ε2
def forS (fi : FA) (h : FG) (body : FS) : FS := fun ε => (fi ε).bind fun items ε1 => forL h body items ε1
def whl (t : FT) (body : FS) : Nat → FS
  | 0, _ => .bot
  | n + 1, ε => (t ε).bind fun c ε1 => if c = true then (body ε1).bind fun fl ε2 => (match fl with
    | .nx => whl t body n ε2
    | .ct => whl t body n ε2
    | .br => .ok .nx ε2
    | fl => .ok fl ε2) else .ok .nx ε1

/-! ### dicts with ints and texts for keys -/
def kvGet (kvs : List ((Int ⊕ Str) × D)) (k : Int ⊕ Str) : Option D := (kvs.find? fun kv => decide (kv.1 = k)).map (·.2)
def kvPut (kvs : List ((Int ⊕ Str) × D)) (k : Int ⊕ Str) (v : D) : List ((Int ⊕ Str) × D) :=
  if (kvs.any fun kv => decide (kv.1 = k)) = true then kvs.map (fun kv => if kv.1 = k then (kv.1, v) else kv) else kvs ++ [(k, v)]
def toK : D → Option (Int ⊕ Str)
  | .int i => some (.inl i)
  | .str x => some (.inr x)
  | _ => none
def ofK : Int ⊕ Str → D
  | .inl i => .int i
  | .inr x => .str x
def hasD (ε : Env) (i : Nat) : Bool := match ε[i]? with
  | some (.ow _ (.d _)) => true
  | _ => false
def newD : FO := fun ε => .ok (.d []) ε
def dGet2 (i : Nat) (fk fv : FE) : FE := fun ε => if hasD ε i = true then (fk ε).bind fun y ε1 => (fv ε1).bind fun z ε2 => .of (toK y) fun k => match ε2[i]? with
  | some (.ow _ (.d kvs)) => .ok ((kvGet kvs k).getD z) ε2
  | _ => .bot
  else .bot
/-- x[k] -/
def dIxN (i : Nat) (fk : FE) : FE := fun ε => if hasD ε i = true then (fk ε).bind fun y ε1 => .of (toK y) fun k => match ε1[i]? with
  | some (.ow _ (.d kvs)) => .of (kvGet kvs k) fun v => .ok v ε1
  | _ => .bot
  else .bot
def dPut (i : Nat) (fk fv : FE) : FS := fun ε => (fv ε).bind fun v ε1 => if hasD ε1 i = true then (fk ε1).bind fun y ε2 => .of (toK y) fun k => match ε2[i]? with
  | some (.ow kk (.d kvs)) => if kvs.length < line then .ok .nx (ε2.set i (.ow kk (.d (kvPut kvs k v)))) else .bot
  | _ => .bot
  else .bot
/-- for .. in x.items(): the dict is used up -/
def forItems (i : Nat) (h : FG) (body : FS) : FS := fun ε => match ε[i]? with
  | some (.ow none (.d kvs)) => forL h body (kvs.map fun p => .tup [ofK p.1, p.2]) (ε.set i .no)
  | _ => .bot

/-! ### what is walked -/
def iSeq (fa : FE) : FA := fun ε => (fa ε).bind fun x ε1 => match x with
  | .lst xs => .ok xs ε1
  | .tup xs => .ok xs ε1
  | .scr ns => .ok (ns.map .int) ε1
  | _ => .bot
def small (i : Int) : Bool := decide (-(2 ^ 62) ≤ i) && decide (i < 2 ^ 62)
def rngL (lo : Int) : Nat → List D
  | 0 => []
  | n + 1 => .int lo :: rngL (lo + 1) n
def iRng1 (fr : FA) : FA := fun ε => (fr ε).bind fun xs ε1 => match xs with
  | [.int j] => if small j = true then .ok (rngL 0 j.toNat) ε1 else .bot
  | _ => .bot
def iRng2 (fr : FA) : FA := fun ε => (fr ε).bind fun xs ε1 => match xs with
  | [.int i, .int j] => if small i = true ∧ small j = true then .ok (rngL i (j - i).toNat) ε1 else .bot
  | _ => .bot
def pairL : Nat → List D → List D
  | _, [] => []
  | n, x :: xs => .tup [.int n, x] :: pairL (n + 1) xs
def iEnum (fa : FE) : FA := fun ε => (fa ε).bind fun x ε1 => match x with
  | .lst xs => .ok (pairL 0 xs) ε1
  | _ => .bot

/-! ### comprehensions -/
def wipeE (ε : Env) : List Nat → Env
  | [] => ε
  | v :: vs => (wipeE ε vs).set v .no
def backE (ε0 ε : Env) : List Nat → Env
  | [] => ε
  | v :: vs => (backE ε0 ε vs).set v (match ε0[v]? with
    | some (.sh d) => .sh d
    | _ => .no)
def lcL (own : List Nat) (h : FG) (tt : FT) (fe : FE) : List D → FA
  | [], ε => .ok [] ε
  | x :: xs, ε => .of (h x ε) fun ε1 => (tt ε1).bindB fun b ε2 => if b = true then (fe ε2).bindB fun y ε3 => (lcL own h tt fe xs (wipeE ε3 own)).bindB fun ys ε4 => .ok (y :: ys) ε4 else lcL own h tt fe xs (wipeE ε2 own)
def tYes : FT := fun ε => .ok true ε
def lc (own : List Nat) (fi : FA) (h : FG) (tt : FT) (fe : FE) : FO := fun ε => (fi ε).bind fun items ε1 =>
  if items.length < line then (lcL own h tt fe items (wipeE ε1 own)).bindB fun ys ε2 => .ok (.l ys) (backE ε1 ε2 own) else .bot

/-! ### defs -/
def start (n : Nat) (ds : List D) : Env := ds.map .sh ++ List.replicate (n - ds.length) .no
def fn (np n : Nat) (g : FS) : List D → FR := fun ds => if ds.length = np then match g (start n ds) with
  | .ok (.rt d) _ => .ret d
  | .ok (.ro o) _ => .rto o
  | .ok .nx _ => .ret .non
  | .ex c fs _ => .rse c fs
  | _ => .bot else .bot
def outQ (d : D) (ε : Env) : FQ := match ε.head? with
  | some (.ow (some 0) o) => .ret d o
  | _ => .bot
def fnQ (np n : Nat) (g : FS) : O → List D → FQ := fun o ds => if ds.length + 1 = np then match g (.ow (some 0) o :: start (n - 1) ds) with
  | .ok (.rt d) ε => outQ d ε
  | .ok .nx ε => outQ .non ε
  | .ex c fs _ => .rse c fs
  | _ => .bot else .bot
/-- a class by its __init__: the fields told by their names in the class's own order -/
def mk (c : Nat) (names : List Str) (m : O → List D → FQ) : List D → FR := fun ds => match m (.i c []) ds with
  | .ret .non (.i c' fs) => if c' = c ∧ fs.map (·.1) = names then .ret (.ins c (fs.map (·.2))) else .bot
  | .rse c fs => .rse c fs
  | _ => .bot

/-! ### operators on values -/
def bits (i : Int) : Nat := i.natAbs.log2 + 1
def wide (i j : Int) : Bool := decide (bits i + bits j ≤ 134217728)
def dAdd : D → D → Option D
  | .int i, .int j => some (.int (i + j))
  | .str x, .str y => if x.length + y.length ≤ line then some (.str (x ++ y)) else none
  | .lst xs, .lst ys => if xs.length + ys.length ≤ line then some (.lst (xs ++ ys)) else none
  | .tup (x :: xs), .tup (y :: ys) => if xs.length + ys.length + 2 ≤ line then some (.tup (x :: xs ++ y :: ys)) else none
  | _, _ => none
def dCatO : D → D → Option O
  | .lst xs, .lst ys => if xs.length + ys.length ≤ line then some (.l (xs ++ ys)) else none
  | _, _ => none
def dSub : D → D → Option D
  | .int i, .int j => some (.int (i - j))
  | _, _ => none
def dMul : D → D → Option D
  | .int i, .int j => if wide i j = true then some (.int (i * j)) else none
  | .lst xs, .int k => if -(2 ^ 63) ≤ k ∧ k < 2 ^ 63 ∧ xs.length * k.toNat ≤ line then some (.lst (List.replicate k.toNat xs).flatten) else none
  | _, _ => none
def dRepO : D → D → Option O
  | .lst xs, .int k => if -(2 ^ 63) ≤ k ∧ k < 2 ^ 63 ∧ xs.length * k.toNat ≤ line then some (.l (List.replicate k.toNat xs).flatten) else none
  | _, _ => none
def dMod : D → D → Option D
  | .int i, .int j => if j ≠ 0 then some (.int (i.fmod j)) else none
  | _, _ => none
def dDiv : D → D → Option D
  | .int i, .int j => if j ≠ 0 ∧ j.natAbs.log2 < 9000 then some (.int (i.fdiv j)) else none
  | _, _ => none
def dPow : D → D → Option D
  | .int i, .int j => if 0 ≤ j ∧ (bits i : Int) * j ≤ 2 ^ 27 then some (.int (i ^ j.toNat)) else none
  | _, _ => none
def dAnd1 : D → D → Option D
  | .int (.ofNat n), .int 1 => some (.int ((n % 2 : Nat) : Int))
  | _, _ => none
def dNeg : D → Option D
  | .int i => some (.int (-i))
  | _ => none
def dLt : D → D → Option D
  | .int i, .int j => some (.bl (decide (i < j)))
  | _, _ => none
def dLe : D → D → Option D
  | .int i, .int j => some (.bl (decide (i ≤ j)))
  | _, _ => none
def dGt : D → D → Option D
  | .int i, .int j => some (.bl (decide (j < i)))
  | _, _ => none
def dGe : D → D → Option D
  | .int i, .int j => some (.bl (decide (j ≤ i)))
  | _, _ => none
def dIx : D → D → Option D
  | .lst xs, .int i => getN xs i
  | .tup xs, .int i => getN xs i
  | .scr ns, .int i => (getN ns i).map .int
  | .str x, .int i => if x.length ≤ line then (getN x.cps.toList i).map fun c => .str ⟨#[c]⟩ else none
  | _, _ => none
def dIsN : D → D → Option D
  | x, .non => some (.bl (match x with | .non => true | _ => false))
  | _, _ => none
def dNotN : D → D → Option D
  | x, .non => some (.bl (match x with | .non => false | _ => true))
  | _, _ => none

/-- x[e] at a name -/
def ixN (i : Nat) (fb : FE) : FE := fun ε => if has ε i = true then (fb ε).bind fun y ε1 => match ε1[i]? with
  | some (.ow _ (.l xs)) => (match y with
    | .int n => .of (getN xs n) fun z => .ok z ε1
    | _ => .bot)
  | some (.sh d) => .of (dIx d y) fun z => .ok z ε1
  | _ => .bot
  else .bot

/-! ### data as the model compares it -/
mutual
def toP : D → PyData
  | .non => .none
  | .bl b => .bool b
  | .int i => .int i
  | .str x => .str x
  | .lst xs => .list (toPs xs)
  | .tup xs => .tuple (toPs xs)
  | .ins _ _ => .dict []
  | .scr _ => .dict []
def toPs : List D → List PyData
  | [] => []
  | d :: ds => toP d :: toPs ds
end
def shp (d : PyData) : Bool := d.canLay0 && decide (d.depth ≤ 64)
def dEq (x y : D) : Option D := if shp (toP x) = true ∧ shp (toP y) = true then some (.bl (PyData.eqv (toP x) (toP y))) else none
def dNe (x y : D) : Option D := if shp (toP x) = true ∧ shp (toP y) = true then some (.bl (!PyData.eqv (toP x) (toP y))) else none
def dIn (x y : D) : Option D := match y with
  | .lst ys => if shp (toP x) = true ∧ shp (toP y) = true then some (.bl ((toPs ys).any fun z => PyData.eqv z (toP x))) else none
  | _ => none
def dNotIn (x y : D) : Option D := match y with
  | .lst ys => if shp (toP x) = true ∧ shp (toP y) = true then some (.bl (!(toPs ys).any fun z => PyData.eqv z (toP x))) else none
  | _ => none

/-! ### built-ins -/
def bLen : List D → Option D
  | [.lst xs] => some (.int (len xs))
  | [.tup xs] => some (.int (len xs))
  | [.scr ns] => some (.int ns.length)
  | [.str x] => if x.length ≤ line then some (.int x.length) else none
  | _ => none
def bAbs : List D → Option D
  | [.int i] => some (.int (if i < 0 then -i else i))
  | _ => none
def bInt : List D → Option D
  | [.int i] => some (.int i)
  | [.bl b] => some (.int (if b then 1 else 0))
  | _ => none
def bMin : List D → Option D
  | [.int i, .int j] => some (.int (if j < i then j else i))
  | _ => none
def bMax : List D → Option D
  | [.int i, .int j] => some (.int (if j > i then j else i))
  | _ => none
def bGcd : List D → Option D
  | [.int i, .int j] => some (.int ((Nat.gcd i.natAbs j.natAbs : Nat) : Int))
  | _ => none
def bLcm : List D → Option D
  | [.int i, .int j] => if i.natAbs.log2 < 13000 ∧ j.natAbs.log2 < 13000 then some (.int ((Nat.lcm i.natAbs j.natAbs : Nat) : Int)) else none
  | _ => none
def intsD : List D → Option (List Int)
  | [] => some []
  | .int i :: r => (intsD r).map (i :: ·)
  | _ => none
def bSum : List D → Option D
  | [.lst xs] => (intsD xs).map fun ns => .int ns.sum
  | _ => none
def bList : List D → Option O
  | [.lst xs] => some (.l xs)
  | [.tup xs] => some (.l xs)
  | [.scr ns] => some (.l (ns.map .int))
  | _ => none
def bTuple : List D → Option D
  | [.lst xs] => some (.tup xs)
  | [.tup xs] => some (.tup xs)
  | _ => none
/-- isinstance(x, T), T a built-in class: yes where the value is of one of these kinds -/
inductive Ty where
  | int | bool | str | list | tuple
def isTy : Ty → D → Option Bool
  | _, .non => some false
  | .int, .bl _ => some true
  | .bool, .bl _ => some true
  | _, .bl _ => some false
  | .int, .int _ => some true
  | _, .int _ => some false
  | .str, .str _ => some true
  | _, .str _ => some false
  | .list, .lst _ => some true
  | _, .lst _ => some false
  | .tuple, .tup _ => some true
  | _, .tup _ => some false
  | .list, .scr _ => some true
  | _, .scr _ => some false
  | _, .ins _ _ => some false
def bIsTy (t : Ty) : List D → Option D
  | [x] => (isTy t x).map .bl
  | _ => none
/-- isinstance(x, C), C an own class -/
def bIsC (n c : Nat) : List D → Option D
  | [.ins c' _] => if c' < n then some (.bl (decide (c' = c))) else none
  | [_] => some (.bl false)
  | _ => none

/-- len(x) at a name -/
def lenN (i : Nat) : FE := fun ε => match ε[i]? with
  | some (.ow _ (.l xs)) => .ok (.int (len xs)) ε
  | some (.ow _ (.d kvs)) => .ok (.int kvs.length) ε
  | some (.sh d) => .of (bLen [d]) fun z => .ok z ε
  | _ => .bot
def bBits : D → Option D
  | .int i => some (.int (Builtin.Int.intBits i : Nat))
  | _ => none
/-- a and b, a or b of truth values; any values -/
def eAnd (fa fb : FE) : FE := fun ε => (fa ε).bind fun x ε1 => .of (tru x) fun c => if c = true then fb ε1 else .ok x ε1
def eOr (fa fb : FE) : FE := fun ε => (fa ε).bind fun x ε1 => .of (tru x) fun c => if c = true then .ok x ε1 else fb ε1
def eNot (fa : FE) : FE := fun ε => (fa ε).bind fun x ε1 => .of (tru x) fun c => .ok (.bl (!c)) ε1
/-- f(e, .., k = e, ..): p puts the values in the parameters' order -/
def callK (m : List D → FR) (p : List D → List D → List D) (fr fk : FA) : FE := fun ε => (fr ε).bind fun xs ε1 => (fk ε1).bind fun ys ε2 => (m (p xs ys)).toE ε2

/-! ### slices -/
def slIx (n d : Nat) : Option Int → Nat
  | none => d
  | some v => if v < 0 then (v + n).toNat else min v.toNat n
def cutN {α : Type} (xs : List α) (lo hi : Option Int) : List α := (xs.drop (slIx xs.length 0 lo)).take (slIx xs.length xs.length hi - slIx xs.length 0 lo)
abbrev FP := Env → R (Option Int)
def pNo : FP := fun ε => .ok none ε
def pSo (fa : FE) : FP := fun ε => (fa ε).bind fun x ε1 => match x with
  | .int i => .ok (some i) ε1
  | _ => .bot
def dSl : D → Option Int → Option Int → Option D
  | .lst xs, lo, hi => some (.lst (cutN xs lo hi))
  | .tup xs, lo, hi => if slIx xs.length 0 lo = 0 ∧ slIx xs.length xs.length hi = xs.length then none else some (.tup (cutN xs lo hi))
  | _, _, _ => none
def slE (fa : FE) (fl fh : FP) : FE := fun ε => (fa ε).bind fun x ε1 => (fl ε1).bind fun lo ε2 => (fh ε2).bind fun hi ε3 => .of (dSl x lo hi) fun z => .ok z ε3
def slO (fa : FE) (fl fh : FP) : FO := fun ε => (fa ε).bind fun x ε1 => (fl ε1).bind fun lo ε2 => (fh ε2).bind fun hi ε3 => match x with
  | .lst xs => .ok (.l (cutN xs lo hi)) ε3
  | _ => .bot
end
end EV
set_option maxRecDepth 100000
/-! EvS: the combinators of EvD are what the text does: over HandS. -/
namespace EV
open PySem L2

/-- the classes: where they stand, their fields in order; the exceptions' -/
structure Tb where
  K : PySem.W.Frag
  ad : Nat → Addr
  nm : Nat → List Str
  xc : Nat → Value
  xn : Nat → List Str

section
variable (T : Tb) (F : Hp)
mutual
/-- the value v stands for d, as F tells -/
def Rep : D → V → Prop
  | .non, v => v = .non
  | .bl b, v => v = .bl b
  | .int i, v => v = .int i
  | .str x, v => v = .str x
  | .lst xs, v => ∃ a vs, v = .ref a ∧ F a = some (.lst vs) ∧ Reps xs vs
  | .tup xs, v => ∃ a vs, v = .ref a ∧ F a = some (.tup vs) ∧ Reps xs vs
  | .ins c fs, v => ∃ a dx vs, v = .ref a ∧ F a = some (.ins (T.ad c) dx ((T.nm c).zip vs)) ∧ vs.length = (T.nm c).length ∧ Reps fs vs
  | .scr ns, v => ∃ a, v = .ref a ∧ SqL T.K F a (ns.map V.int)
def Reps : List D → List V → Prop
  | [], vs => vs = []
  | d :: ds, vs => ∃ v us, vs = v :: us ∧ Rep d v ∧ Reps ds us
end
end
section
variable {T : Tb} {F F' : Hp}
mutual
theorem Rep.mono (s : Same F F') : ∀ {d : D} {v : V}, Rep T F d v → Rep T F' d v
  | .non, v, h => by simpa only [Rep] using h
  | .bl b, v, h => by simpa only [Rep] using h
  | .int b, v, h => by simpa only [Rep] using h
  | .str b, v, h => by simpa only [Rep] using h
  | .lst xs, v, h => by
    simp only [Rep] at h ⊢
    obtain ⟨a, vs, e, h1, h2⟩ := h
    exact ⟨a, vs, e, s _ _ h1, Reps.mono s h2⟩
  | .tup xs, v, h => by
    simp only [Rep] at h ⊢
    obtain ⟨a, vs, e, h1, h2⟩ := h
    exact ⟨a, vs, e, s _ _ h1, Reps.mono s h2⟩
  | .ins c fs, v, h => by
    simp only [Rep] at h ⊢
    obtain ⟨a, dx, vs, e, h1, hl, h2⟩ := h
    exact ⟨a, dx, vs, e, s _ _ h1, hl, Reps.mono s h2⟩
  | .scr ns, v, h => by
    simp only [Rep] at h ⊢
    obtain ⟨a, e, h1⟩ := h
    exact ⟨a, e, s.seq h1⟩
theorem Reps.mono (s : Same F F') : ∀ {ds : List D} {vs : List V}, Reps T F ds vs → Reps T F' ds vs
  | [], vs, h => by simpa only [Reps] using h
  | d :: ds, vs, h => by
    simp only [Reps] at h ⊢
    obtain ⟨v, us, e, h1, h2⟩ := h
    exact ⟨v, us, e, Rep.mono s h1, Reps.mono s h2⟩
end
theorem reps_nil {vs : List V} : Reps T F [] vs ↔ vs = [] := by simp only [Reps]
theorem reps_cons {d : D} {ds : List D} {vs : List V} : Reps T F (d :: ds) vs ↔ ∃ v us, vs = v :: us ∧ Rep T F d v ∧ Reps T F ds us := by simp only [Reps]
theorem Reps.nil : Reps T F [] [] := reps_nil.mpr rfl
theorem Reps.cons {d : D} {ds : List D} {v : V} {vs : List V} (h : Rep T F d v) (t : Reps T F ds vs) : Reps T F (d :: ds) (v :: vs) := reps_cons.mpr ⟨v, vs, rfl, h, t⟩
theorem Reps.length : ∀ {ds : List D} {vs : List V}, Reps T F ds vs → ds.length = vs.length
  | [], vs, h => by rw [reps_nil.mp h]; rfl
  | d :: ds, vs, h => by
    obtain ⟨v, us, rfl, _, h2⟩ := reps_cons.mp h
    simp [h2.length]
theorem Reps.get : ∀ {ds : List D} {vs : List V} {i : Nat} {d : D}, Reps T F ds vs → ds[i]? = some d → ∃ v, vs[i]? = some v ∧ Rep T F d v
  | [], vs, i, d, h, e => by simp at e
  | x :: ds, vs, 0, d, h, e => by
    obtain ⟨v, us, rfl, h1, h2⟩ := reps_cons.mp h
    simp at e
    subst e
    exact ⟨v, by simp, h1⟩
  | x :: ds, vs, i + 1, d, h, e => by
    obtain ⟨v, us, rfl, h1, h2⟩ := reps_cons.mp h
    simp at e
    obtain ⟨w, e1, e2⟩ := h2.get e
    exact ⟨w, by simpa using e1, e2⟩
theorem Reps.get' : ∀ {ds : List D} {vs : List V} {i : Nat} {v : V}, Reps T F ds vs → vs[i]? = some v → ∃ d, ds[i]? = some d ∧ Rep T F d v
  | [], vs, i, d, h, e => by rw [reps_nil.mp h] at e; simp at e
  | x :: ds, vs, 0, w, h, e => by
    obtain ⟨v, us, rfl, h1, h2⟩ := reps_cons.mp h
    simp at e
    subst e
    exact ⟨x, by simp, h1⟩
  | x :: ds, vs, i + 1, w, h, e => by
    obtain ⟨v, us, rfl, h1, h2⟩ := reps_cons.mp h
    simp at e
    obtain ⟨w, e1, e2⟩ := h2.get' e
    exact ⟨w, by simpa using e1, e2⟩
theorem Reps.set {d : D} {v : V} (r : Rep T F d v) : ∀ {ds : List D} {vs : List V} (i : Nat), Reps T F ds vs → Reps T F (ds.set i d) (vs.set i v)
  | [], vs, i, h => by rw [reps_nil.mp h]; exact .nil
  | x :: ds, vs, 0, h => by
    obtain ⟨v, us, rfl, h1, h2⟩ := reps_cons.mp h
    exact .cons r h2
  | x :: ds, vs, i + 1, h => by
    obtain ⟨v, us, rfl, h1, h2⟩ := reps_cons.mp h
    exact .cons h1 (h2.set r i)
theorem Reps.append : ∀ {ds es : List D} {vs us : List V}, Reps T F ds vs → Reps T F es us → Reps T F (ds ++ es) (vs ++ us)
  | [], es, vs, us, h, g => by rw [reps_nil.mp h]; exact g
  | x :: ds, es, vs, us, h, g => by
    obtain ⟨v, ws, rfl, h1, h2⟩ := reps_cons.mp h
    exact .cons h1 (h2.append g)
theorem Reps.flat : ∀ {xs : List D} {vs : List V} (n : Nat), Reps T F xs vs → Reps T F (List.replicate n xs).flatten (List.replicate n vs).flatten
  | xs, vs, 0, h => .nil
  | xs, vs, n + 1, h => by
    simp only [List.replicate_succ, List.flatten_cons]
    exact h.append (h.flat n)
theorem Reps.ints : ∀ {ns : List Int}, Reps T F (ns.map D.int) (ns.map V.int)
  | [] => .nil
  | n :: ns => .cons (by simp only [Rep]) Reps.ints
end

/-- nothing changed, new things only -/
structure Grow (F H F' H' : Hp) : Prop where
  ff : Same F F'
  fh : Same F' H'
  hh : Same H H'
  nw : ∀ p, F' p ≠ none → F p ≠ none ∨ H p = none
theorem Grow.refl {F H : Hp} (s : Same F H) : Grow F H F H := ⟨.refl _, s, .refl _, fun p h => .inl h⟩
theorem Same.new {H : Hp} {p : Addr} {o : HO} (h : H p = none) : Same H (upd H p o) := fun a u e => by
  rw [upd_ne (ne_of_none e h)]
  exact e
theorem Same.none {F H : Hp} {p : Addr} (s : Same F H) (h : H p = Option.none) : F p = Option.none := s.free h
/-- a new thing, known to F -/
theorem Grow.new {F H : Hp} {p : Addr} {o : HO} (s : Same F H) (h : H p = none) : Grow F H (upd F p o) (upd H p o) where
  ff := Same.new (Same.none s h)
  fh := fun a u e => by
    by_cases e1 : a = p
    · subst e1
      rw [upd_same] at e ⊢
      exact e
    · rw [upd_ne e1] at e ⊢
      exact s _ _ e
  hh := Same.new h
  nw := fun q hq => by
    by_cases e1 : q = p
    · subst e1
      exact .inr h
    · rw [upd_ne e1] at hq
      exact .inl hq
theorem Grow.trans {F H F1 H1 F2 H2 : Hp} (a : Grow F H F1 H1) (b : Grow F1 H1 F2 H2) : Grow F H F2 H2 where
  ff := a.ff.trans b.ff
  fh := b.fh
  hh := a.hh.trans b.hh
  nw := fun p h => by
    rcases b.nw p h with h | h
    · exact a.nw p h
    · exact .inr (a.hh.free h)

section
variable (T : Tb)
def RepO (F : Hp) : O → HO → Prop
  | .l xs, .lst vs => Reps T F xs vs
  | .d kvs, .dK kws => kws.map (·.1) = kvs.map (·.1) ∧ Reps T F (kvs.map (·.2)) (kws.map (·.2))
  | .i c fs, .ins C _ gs => C = T.ad c ∧ gs.map (·.1) = fs.map (·.1) ∧ Reps T F (fs.map (·.2)) (gs.map (·.2))
  | _, _ => False
def RelS (B0 : Hp) (A : List Addr) (F H : Hp) (v : Option (Option V)) : Slot → Prop
  | .no => True
  | .sh d => ∃ u, v = some (some u) ∧ Rep T F d u
  | .ow k o => ∃ a ho, v = some (some (.ref a)) ∧ F a = none ∧ B0 a = none ∧ (∀ n, k = some n → A[n]? = some a) ∧ H a = some ho ∧ RepO T F o ho
def OwnA (ε : Env) (σ : St) (i : Nat) (a : Addr) : Prop := (∃ k o, ε[i]? = some (.ow k o)) ∧ σ[i]? = some (some (.ref a))
structure RelE (F0 B0 : Hp) (A : List Addr) (F H : Hp) (σ : St) (ε : Env) : Prop where
  f0 : Same F0 F
  fh : Same F H
  bh : Same B0 H
  fr : ∀ p, F p ≠ none → F0 p ≠ none ∨ B0 p = none
  len : ε.length = σ.length
  sl : ∀ (i : Nat) (s : Slot), ε[i]? = some s → RelS T B0 A F H σ[i]? s
  nd : ∀ (i j : Nat) (a : Addr), OwnA ε σ i a → OwnA ε σ j a → i = j
def XRep (F H : Hp) (c : Nat) (fs : List D) (cls : Value) (dx : Option Addr) : Prop := cls = T.xc c ∧
  ((∃ d vs, dx = some d ∧ H d = some (.xd ((T.xn c).zip vs)) ∧ vs.length = (T.xn c).length ∧ Reps T F fs vs) ∨ (dx = none ∧ fs = [] ∧ T.xn c = []))
def Post {α : Type} (W : WX) (F0 B0 : Hp) (A : List Addr) (F : Hp) (σ : St) (m : R α) (K : α → Env → Hp → Hp → Prop) : Prop := match m with
  | .bot => False
  | .ok a ε => ∀ F' H', Same F F' → RelE T F0 B0 A F' H' σ ε → K a ε F' H'
  | .ex c fs ε => ∀ F' H' cls dx, Same F F' → RelE T F0 B0 A F' H' σ ε → XRep T F' H' c fs cls dx → W cls dx σ H'
def PostS (W : WX) (F0 B0 : Hp) (A : List Addr) (F : Hp) (m : R Fl) (Dn : Ends) : Prop := match m with
  | .bot => False
  | .ok fl ε => ∀ σ' F' H', Same F F' → RelE T F0 B0 A F' H' σ' ε → (match fl with
    | .nx => Dn.nx σ' H'
    | .br => Dn.bk σ' H'
    | .ct => Dn.ct σ' H'
    | .rt d => ∀ v, Rep T F' d v → Dn.rt v H'
    | .ro o => ∀ p ho, F' p = none → B0 p = none → H' p = some ho → RepO T F' o ho → (∀ i, ¬ OwnA ε σ' i p) → Dn.rt (.ref p) H')
  | .ex c fs ε => ∀ σ' F' H' cls dx, Same F F' → RelE T F0 B0 A F' H' σ' ε → XRep T F' H' c fs cls dx → W cls dx σ' H'
def EvP (W : WX) (f : FE) : TE := fun σ H Q => ∃ F0 B0 A F ε, RelE T F0 B0 A F H σ ε ∧ Post T W F0 B0 A F σ (f ε) fun d _ F' H' => ∀ v, Rep T F' d v → Q v H'
def EvT (W : WX) (f : FT) : TT := fun σ H Q => ∃ F0 B0 A F ε, RelE T F0 B0 A F H σ ε ∧ Post T W F0 B0 A F σ (f ε) fun b _ _ H' => Q b H'
def EvO (W : WX) (f : FO) : TE := fun σ H Q => ∃ F0 B0 A F ε, RelE T F0 B0 A F H σ ε ∧ Post T W F0 B0 A F σ (f ε) fun o ε' F' H' => ∀ p ho, F' p = none → B0 p = none → H' p = some ho → RepO T F' o ho → (∀ i, ¬ OwnA ε' σ i p) → Q (.ref p) H'
def EvA (W : WX) (f : FA) : TA := fun σ H Q => ∃ F0 B0 A F ε, RelE T F0 B0 A F H σ ε ∧ Post T W F0 B0 A F σ (f ε) fun ds _ F' H' => ∀ vs, Reps T F' ds vs → Q vs H'
def EvS (W : WX) (g : FS) : TS := fun Dn σ H => ∃ F0 B0 A F ε, RelE T F0 B0 A F H σ ε ∧ PostS T W F0 B0 A F (g ε) Dn
end
abbrev SE (X : Cx) (T : Tb) (W : WX) (e : Expr) (f : FE) : Prop := PE X e (EvP T W f)
abbrev SO (X : Cx) (T : Tb) (W : WX) (e : Expr) (f : FO) : Prop := PE X e (EvO T W f)
abbrev ST (X : Cx) (T : Tb) (W : WX) (e : Expr) (f : FT) : Prop := PT X e (EvT T W f)
abbrev SW (X : Cx) (T : Tb) (W : WX) (e : Expr) (f : FT) : Prop := PW X e (EvT T W f)
abbrev SA (X : Cx) (T : Tb) (W : WX) (es : List Expr) (f : FA) : Prop := PA X es (EvA T W f)
abbrev SS (X : Cx) (T : Tb) (W : WX) (st : Stmt) (g : FS) : Prop := PS X st (EvS T W g)
abbrev SSs (X : Cx) (T : Tb) (W : WX) (st : List Stmt) (g : FS) : Prop := PSs X st (EvS T W g)

section
variable {X : Cx}
theorem impE {e : Expr} {t t' : TE} (h : PE X e t) (i : ∀ σ H Q, t' σ H Q → t σ H Q) : PE X e t' := ⟨fun pins s σ H Q I x => h.run pins s σ H Q I (i _ _ _ x)⟩
theorem impT {e : Expr} {t t' : TT} (h : PT X e t) (i : ∀ σ H Q, t' σ H Q → t σ H Q) : PT X e t' := ⟨fun pins s σ H Q I x => h.run pins s σ H Q I (i _ _ _ x)⟩
theorem impW {e : Expr} {t t' : TT} (h : PW X e t) (i : ∀ σ H Q, t' σ H Q → t σ H Q) : PW X e t' := ⟨fun whole pins s σ H Q I x => h.run whole pins s σ H Q I (i _ _ _ x)⟩
theorem impA {e : List Expr} {t t' : TA} (h : PA X e t) (i : ∀ σ H Q, t' σ H Q → t σ H Q) : PA X e t' := ⟨fun p pins s σ H Q I x => h.run p pins s σ H Q I (i _ _ _ x)⟩
theorem impS {e : Stmt} {t t' : TS} (h : PS X e t) (i : ∀ D σ H, t' D σ H → t D σ H) : PS X e t' := ⟨fun pins s σ H D I x => h.run pins s σ H D I (i _ _ _ x)⟩
theorem impSs {e : List Stmt} {t t' : TS} (h : PSs X e t) (i : ∀ D σ H, t' D σ H → t D σ H) : PSs X e t' := ⟨fun pins s σ H D I x => h.run pins s σ H D I (i _ _ _ x)⟩
theorem impI {tg e : Expr} {t t' : TI} (h : PI X tg e t) (i : ∀ σ H Q, t' σ H Q → t σ H Q) : PI X tg e t' := ⟨fun pins s σ H Q I x => h.run pins s σ H Q I (i _ _ _ x)⟩
end

section
variable {T : Tb} {W : WX} {F0 B0 F F' H H' : Hp} {A : List Addr} {σ : St} {ε : Env}
theorem RepO.mono (s : Same F F') {o : O} {ho : HO} (h : RepO T F o ho) : RepO T F' o ho := by
  cases o with
  | l xs =>
    cases ho with
    | lst vs => exact Reps.mono s h
    | _ => exact h.elim
  | i c fs =>
    cases ho with
    | ins C dx gs => exact ⟨h.1, h.2.1, Reps.mono s h.2.2⟩
    | _ => exact h.elim
  | d kvs =>
    cases ho with
    | dK kws => exact ⟨h.1, Reps.mono s h.2⟩
    | _ => exact h.elim
theorem RelS.grow {v : Option (Option V)} {sl : Slot} (g : Grow F H F' H') (h : RelS T B0 A F H v sl) : RelS T B0 A F' H' v sl := by
  cases sl with
  | no => trivial
  | sh d =>
    obtain ⟨u, e, r⟩ := h
    exact ⟨u, e, r.mono g.ff⟩
  | ow k o =>
    obtain ⟨a, ho, e, fa, ba, ka, ha, r⟩ := h
    refine ⟨a, ho, e, ?_, ba, ka, g.hh _ _ ha, r.mono g.ff⟩
    cases q : F' a with
    | none => rfl
    | some x =>
      rcases g.nw a (by rw [q]; simp) with z | z
      · exact absurd fa z
      · rw [ha] at z; cases z
theorem RelE.grow (r : RelE T F0 B0 A F H σ ε) (g : Grow F H F' H') : RelE T F0 B0 A F' H' σ ε where
  f0 := r.f0.trans g.ff
  fh := g.fh
  bh := r.bh.trans g.hh
  fr := fun p h => by
    rcases g.nw p h with z | z
    · exact r.fr p z
    · exact .inr (r.bh.free z)
  len := r.len
  sl := fun i s e => (r.sl i s e).grow g
  nd := r.nd
theorem Post.monoF {α : Type} {m : R α} {K : α → Env → Hp → Hp → Prop} (s : Same F F') (h : Post T W F0 B0 A F σ m K) : Post T W F0 B0 A F' σ m K := by
  cases m with
  | bot => exact h
  | ok a e => exact fun F1 H1 s1 r => h F1 H1 (s.trans s1) r
  | ex c fs e => exact fun F1 H1 cls dx s1 r x => h F1 H1 cls dx (s.trans s1) r x
theorem PostS.monoF {m : R Fl} {Dn : Ends} (s : Same F F') (h : PostS T W F0 B0 A F m Dn) : PostS T W F0 B0 A F' m Dn := by
  cases m with
  | bot => exact h
  | ok a e => exact fun σ1 F1 H1 s1 r => h σ1 F1 H1 (s.trans s1) r
  | ex c fs e => exact fun σ1 F1 H1 cls dx s1 r x => h σ1 F1 H1 cls dx (s.trans s1) r x
theorem Post.imp {α : Type} {m : R α} {K K' : α → Env → Hp → Hp → Prop} (h : Post T W F0 B0 A F σ m K) (i : ∀ a ε' F' H', Same F F' → RelE T F0 B0 A F' H' σ ε' → K a ε' F' H' → K' a ε' F' H') : Post T W F0 B0 A F σ m K' := by
  cases m with
  | bot => exact h
  | ok a e => exact fun F1 H1 s1 r => i _ _ _ _ s1 r (h F1 H1 s1 r)
  | ex c fs e => exact h
theorem post_bind {α β : Type} {m : R α} {k : α → Env → R β} {K : β → Env → Hp → Hp → Prop} (h : Post T W F0 B0 A F σ (m.bind k) K) :
    Post T W F0 B0 A F σ m fun a ε' F' _ => Post T W F0 B0 A F' σ (k a ε') K := by
  cases m with
  | bot => exact h
  | ok a e => exact fun F1 H1 s1 r => Post.monoF s1 h
  | ex c fs e => exact h
theorem postS_bind {α : Type} {m : R α} {k : α → Env → R Fl} {Dn : Ends} (h : PostS T W F0 B0 A F (m.bind k) Dn) :
    Post T W F0 B0 A F σ m fun a ε' F' _ => PostS T W F0 B0 A F' (k a ε') Dn := by
  cases m with
  | bot => exact h
  | ok a e => exact fun F1 H1 s1 r => PostS.monoF s1 h
  | ex c fs e => exact fun F1 H1 cls dx s1 r x => h σ F1 H1 cls dx s1 r x
theorem post_of {α β : Type} {o : Option α} {k : α → R β} {K : β → Env → Hp → Hp → Prop} (h : Post T W F0 B0 A F σ (R.of o k) K) : ∃ a, o = some a ∧ Post T W F0 B0 A F σ (k a) K := by
  cases o with
  | none => exact h.elim
  | some a => exact ⟨a, rfl, h⟩
theorem postS_of {α : Type} {o : Option α} {k : α → R Fl} {Dn : Ends} (h : PostS T W F0 B0 A F (R.of o k) Dn) : ∃ a, o = some a ∧ PostS T W F0 B0 A F (k a) Dn := by
  cases o with
  | none => exact h.elim
  | some a => exact ⟨a, rfl, h⟩

/-! ### slots -/
theorem slot_get {i : Nat} {s : Slot} (r : RelE T F0 B0 A F H σ ε) (e : ε[i]? = some s) : RelS T B0 A F H σ[i]? s := r.sl i s e
theorem lt_of_get {α : Type} {l : List α} {i : Nat} {x : α} (h : l[i]? = some x) : i < l.length := (List.getElem?_eq_some_iff.mp h).1
theorem ownA_set_no {i j : Nat} {s : Slot} {v : Option V} {a : Addr} (ns : ∀ k o, s ≠ .ow k o) (h : OwnA (ε.set i s) (σ.set i v) j a) : j ≠ i ∧ OwnA ε σ j a := by
  obtain ⟨⟨k, o, h1⟩, h2⟩ := h
  by_cases e : j = i
  · subst e
    have hl : j < (ε.set j s).length := lt_of_get h1
    rw [List.length_set] at hl
    rw [List.getElem?_set_self hl] at h1
    exact absurd (Option.some.inj h1) (ns k o)
  · rw [List.getElem?_set_ne (Ne.symm e)] at h1 h2
    exact ⟨e, ⟨k, o, h1⟩, h2⟩
/-- a name gets a value -/
theorem RelE.setSh {i : Nat} {d : D} {v : V} (r : RelE T F0 B0 A F H σ ε) (h : Rep T F d v) : RelE T F0 B0 A F H (σ.set i (some v)) (ε.set i (.sh d)) where
  f0 := r.f0
  fh := r.fh
  bh := r.bh
  fr := r.fr
  len := by simpa using r.len
  sl := fun j s e => by
    by_cases q : j = i
    · subst q
      have hl : j < (ε.set j (.sh d)).length := lt_of_get e
      rw [List.length_set] at hl
      rw [List.getElem?_set_self hl] at e
      cases e
      rw [List.getElem?_set_self (by rw [← r.len]; exact hl)]
      exact ⟨v, rfl, h⟩
    · rw [List.getElem?_set_ne (Ne.symm q)] at e ⊢
      exact r.sl j s e
  nd := fun j k a h1 h2 => by
    have z1 := ownA_set_no (by intro _ _; simp) h1
    have z2 := ownA_set_no (by intro _ _; simp) h2
    exact r.nd j k a z1.2 z2.2
/-- what was known of a name is forgotten -/
theorem RelE.setNo {i : Nat} {v : Option V} (r : RelE T F0 B0 A F H σ ε) : RelE T F0 B0 A F H (σ.set i v) (ε.set i .no) where
  f0 := r.f0
  fh := r.fh
  bh := r.bh
  fr := r.fr
  len := by simpa using r.len
  sl := fun j s e => by
    by_cases q : j = i
    · subst q
      have hl : j < (ε.set j .no).length := lt_of_get e
      rw [List.length_set] at hl
      rw [List.getElem?_set_self hl] at e
      cases e
      trivial
    · rw [List.getElem?_set_ne (Ne.symm q)] at e ⊢
      exact r.sl j s e
  nd := fun j k a h1 h2 => by
    have z1 := ownA_set_no (by intro _ _; simp) h1
    have z2 := ownA_set_no (by intro _ _; simp) h2
    exact r.nd j k a z1.2 z2.2
theorem RelE.setNo' {i : Nat} (r : RelE T F0 B0 A F H σ ε) : RelE T F0 B0 A F H σ (ε.set i .no) where
  f0 := r.f0
  fh := r.fh
  bh := r.bh
  fr := r.fr
  len := by simpa using r.len
  sl := fun j s e => by
    by_cases q : j = i
    · subst q
      have hl : j < (ε.set j .no).length := lt_of_get e
      rw [List.length_set] at hl
      rw [List.getElem?_set_self hl] at e
      cases e
      trivial
    · rw [List.getElem?_set_ne (Ne.symm q)] at e
      exact r.sl j s e
  nd := fun j k a h1 h2 => by
    have go : ∀ {j}, OwnA (ε.set i .no) σ j a → OwnA ε σ j a := by
      rintro j ⟨⟨k, o, h1⟩, h2⟩
      by_cases e : j = i
      · subst e
        have hl : j < (ε.set j .no).length := lt_of_get h1
        rw [List.length_set] at hl
        rw [List.getElem?_set_self hl] at h1
        cases h1
      · rw [List.getElem?_set_ne (Ne.symm e)] at h1
        exact ⟨⟨k, o, h1⟩, h2⟩
    exact r.nd j k a (go h1) (go h2)
/-- an object of one's own, at a name -/
theorem RelE.setOw {i : Nat} {o : O} {p : Addr} {ho : HO} (r : RelE T F0 B0 A F H σ ε) (fp : F p = none) (bp : B0 p = none) (hp : H p = some ho) (ro : RepO T F o ho) (np : ∀ j, ¬ OwnA ε σ j p) :
    RelE T F0 B0 A F H (σ.set i (some (.ref p))) (ε.set i (.ow none o)) where
  f0 := r.f0
  fh := r.fh
  bh := r.bh
  fr := r.fr
  len := by simpa using r.len
  sl := fun j s e => by
    by_cases q : j = i
    · subst q
      have hl : j < (ε.set j (.ow none o)).length := lt_of_get e
      rw [List.length_set] at hl
      rw [List.getElem?_set_self hl] at e
      cases e
      rw [List.getElem?_set_self (by rw [← r.len]; exact hl)]
      exact ⟨p, ho, rfl, fp, bp, (fun n z => by cases z), hp, ro⟩
    · rw [List.getElem?_set_ne (Ne.symm q)] at e ⊢
      exact r.sl j s e
  nd := fun j k a h1 h2 => by
    have cs : ∀ {j}, OwnA (ε.set i (.ow none o)) (σ.set i (some (.ref p))) j a → (j = i ∧ a = p) ∨ (j ≠ i ∧ OwnA ε σ j a) := by
      rintro j ⟨⟨k, o, h1⟩, h2⟩
      by_cases e : j = i
      · subst e
        have hl : j < _ := lt_of_get h2
        rw [List.length_set] at hl
        rw [List.getElem?_set_self hl] at h2
        cases h2
        exact .inl ⟨rfl, rfl⟩
      · rw [List.getElem?_set_ne (Ne.symm e)] at h1 h2
        exact .inr ⟨e, ⟨k, o, h1⟩, h2⟩
    rcases cs h1 with ⟨rfl, rfl⟩ | ⟨_, z1⟩
    · rcases cs h2 with ⟨rfl, _⟩ | ⟨_, z2⟩
      · rfl
      · exact absurd z2 (np _)
    · rcases cs h2 with ⟨rfl, rfl⟩ | ⟨_, z2⟩
      · exact absurd z1 (np _)
      · exact r.nd j k a z1 z2
/-- an object of one's own is changed -/
theorem RelE.wrOw {i : Nat} {k : Option Nat} {o o' : O} {a : Addr} {ho : HO} (r : RelE T F0 B0 A F H σ ε) (e : ε[i]? = some (.ow k o)) (ev : σ[i]? = some (some (.ref a))) (ro : RepO T F o' ho) :
    RelE T F0 B0 A F (upd H a ho) σ (ε.set i (.ow k o')) := by
  obtain ⟨a', ho', e1, fa, ba, ka, ha, _⟩ := r.sl i _ e
  have ea : a' = a := by
    rw [ev] at e1
    cases e1
    rfl
  subst ea
  have iε : i < ε.length := lt_of_get e
  refine ⟨r.f0, fun p u h => ?_, fun p u h => ?_, r.fr, by simpa using r.len, fun j s ej => ?_, fun j l b h1 h2 => ?_⟩
  · rw [upd_ne (ne_of_none h fa)]
    exact r.fh p u h
  · rw [upd_ne (ne_of_none h ba)]
    exact r.bh p u h
  · by_cases q : j = i
    · subst q
      rw [List.getElem?_set_self iε] at ej
      cases ej
      exact ⟨a', ho, ev, fa, ba, ka, upd_same, ro⟩
    · rw [List.getElem?_set_ne (Ne.symm q)] at ej
      have z := r.sl j s ej
      cases s with
      | no => trivial
      | sh d => exact z
      | ow k1 o1 =>
        obtain ⟨b, hb, e2, fb, bb, kb, hhb, rb⟩ := z
        refine ⟨b, hb, e2, fb, bb, kb, ?_, rb⟩
        rw [upd_ne]
        · exact hhb
        · rintro rfl
          exact q (r.nd j i b ⟨⟨_, _, ej⟩, e2⟩ ⟨⟨_, _, e⟩, ev⟩)
  · have go : ∀ {j}, OwnA (ε.set i (.ow k o')) σ j b → OwnA ε σ j b := by
      rintro j ⟨⟨k, o, g1⟩, g2⟩
      by_cases q : j = i
      · subst q
        exact ⟨⟨_, _, e⟩, g2⟩
      · rw [List.getElem?_set_ne (Ne.symm q)] at g1
        exact ⟨⟨k, o, g1⟩, g2⟩
    exact r.nd j l b (go h1) (go h2)
/-- an own list is shared from now on -/
theorem RelE.share {i : Nat} {xs : List D} {a : Addr} {vs : List V} (r : RelE T F0 B0 A F H σ ε) (e : ε[i]? = some (.ow none (.l xs))) (ev : σ[i]? = some (some (.ref a))) (ha : H a = some (.lst vs)) (rv : Reps T F xs vs) (fa : F a = none) (ba : B0 a = none) :
    Same F (upd F a (.lst vs)) ∧ RelE T F0 B0 A (upd F a (.lst vs)) H σ (ε.set i (.sh (.lst xs))) ∧ Rep T (upd F a (.lst vs)) (.lst xs) (.ref a) := by
  have sf : Same F (upd F a (.lst vs)) := Same.new fa
  have ro : Rep T (upd F a (.lst vs)) (.lst xs) (.ref a) := by
    simp only [Rep]
    exact ⟨a, vs, rfl, upd_same, rv.mono sf⟩
  have iε : i < ε.length := lt_of_get e
  refine ⟨sf, ⟨r.f0.trans sf, fun p u h => ?_, r.bh, fun p h => ?_, by simpa using r.len, fun j s ej => ?_, fun j l b h1 h2 => ?_⟩, ro⟩
  · by_cases q : p = a
    · subst q
      rw [upd_same] at h
      cases h
      exact ha
    · rw [upd_ne q] at h
      exact r.fh p u h
  · by_cases q : p = a
    · subst q
      exact .inr ba
    · rw [upd_ne q] at h
      exact r.fr p h
  · by_cases q : j = i
    · subst q
      rw [List.getElem?_set_self iε] at ej
      cases ej
      exact ⟨_, ev, ro⟩
    · rw [List.getElem?_set_ne (Ne.symm q)] at ej
      have z := r.sl j s ej
      cases s with
      | no => trivial
      | sh d =>
        obtain ⟨u, e1, e2⟩ := z
        exact ⟨u, e1, e2.mono sf⟩
      | ow k1 o1 =>
        obtain ⟨b, hb, e2, fb, bb, kb, hhb, rb⟩ := z
        refine ⟨b, hb, e2, ?_, bb, kb, hhb, rb.mono sf⟩
        rw [upd_ne]
        · exact fb
        · rintro rfl
          exact q (r.nd j i b ⟨⟨_, _, ej⟩, e2⟩ ⟨⟨_, _, e⟩, ev⟩)
  · have go : ∀ {j}, OwnA (ε.set i (.sh (.lst xs))) σ j b → OwnA ε σ j b := by
      rintro j ⟨⟨k, o, h1⟩, h2⟩
      by_cases q : j = i
      · subst q
        rw [List.getElem?_set_self iε] at h1
        cases h1
      · rw [List.getElem?_set_ne (Ne.symm q)] at h1
        exact ⟨⟨k, o, h1⟩, h2⟩
    exact r.nd j l b (go h1) (go h2)
/-- a new list, at no name yet -/
theorem RelE.newOwn {p : Addr} {ho : HO} (r : RelE T F0 B0 A F H σ ε) (hp : H p = none) : RelE T F0 B0 A F (upd H p ho) σ ε ∧ F p = none ∧ B0 p = none ∧ ∀ i, ¬ OwnA ε σ i p := by
  refine ⟨r.grow ⟨.refl _, r.fh.trans (Same.new hp), Same.new hp, fun q h => .inl h⟩, r.fh.free hp, r.bh.free hp, fun i ⟨⟨k, o, e1⟩, e2⟩ => ?_⟩
  obtain ⟨b, hb, e3, _, _, _, hhb, _⟩ := r.sl i _ e1
  rw [e2] at e3
  cases e3
  rw [hp] at hhb
  cases hhb
end
end EV
set_option maxRecDepth 100000
/-! EvR: one rule a construct. -/
namespace EV
open PySem L2
section
variable {X : Cx} {T : Tb} {W : WX} {pos : Pos} {a b e : Expr} {fa fb fe : FE}

/-! ### constants, names -/
theorem sE_const {d : D} {v : V} (h : PE X e (tC v)) (r : ∀ F, Rep T F d v) : SE X T W e (cC d) := impE h fun σ H Q ⟨F0, B0, A, F, ε, rel, p⟩ => p F H (.refl _) rel v (r F)
theorem sE_int {i : Int} {j pos} : SE X T W (.Constant (.int i) j pos) (cC (.int i)) := sE_const pe_int fun F => by simp only [Rep]
theorem sE_bl {i : Bool} {j pos} : SE X T W (.Constant (.bool i) j pos) (cC (.bl i)) := sE_const pe_bl fun F => by simp only [Rep]
theorem sE_non {j pos} : SE X T W (.Constant .none j pos) (cC .non) := sE_const pe_non fun F => by simp only [Rep]
theorem sE_str {i : Str} {j pos} : SE X T W (.Constant (.str i) j pos) (cC (.str i)) := sE_const pe_str fun F => by simp only [Rep]
/-- a module's constant -/
theorem sE_glob {x : Str} {d : D} {v : V} (h : PE X (.Name x pos) (tC v)) (r : ∀ F, Rep T F d v) : SE X T W (.Name x pos) (cC d) := sE_const h r
theorem sE_nm {i : Nat} (h : PE X e (tVar i)) : SE X T W e (nm i) := impE h fun σ H Q ⟨F0, B0, A, F, ε, rel, p⟩ => by
  unfold nm at p
  split at p
  · rename_i d he
    obtain ⟨u, e1, r⟩ := rel.sl i _ he
    exact ⟨u, e1, p F H (.refl _) rel u r⟩
  · rename_i xs he
    obtain ⟨a, ho, e1, fa, ba, _, ha, ro⟩ := rel.sl i _ he
    cases ho with
    | lst vs =>
      obtain ⟨s1, rel1, r1⟩ := rel.share he e1 ha ro fa ba
      exact ⟨_, e1, p _ H s1 rel1 _ r1⟩
    | _ => exact ro.elim
  · exact p.elim
theorem sO_nm {i : Nat} (h : PE X e (tVar i)) : SO X T W e (nmO i) := impE h fun σ H Q ⟨F0, B0, A, F, ε, rel, p⟩ => by
  unfold nmO at p
  split at p
  · rename_i o he
    obtain ⟨a, ho, e1, fa, ba, _, ha, ro⟩ := rel.sl i _ he
    refine ⟨_, e1, p F H (.refl _) rel.setNo' a ho fa ba ha ro fun j hj => ?_⟩
    obtain ⟨⟨k, o2, h1⟩, h2⟩ := hj
    have iε : i < ε.length := lt_of_get he
    by_cases q : j = i
    · subst q
      rw [List.getElem?_set_self iε] at h1
      cases h1
    · rw [List.getElem?_set_ne (Ne.symm q)] at h1
      exact q (rel.nd j i a ⟨⟨_, _, h1⟩, h2⟩ ⟨⟨_, _, he⟩, e1⟩)
  · exact p.elim
/-- an own object is shared at once -/
theorem sE_frz {f : FO} (h : SO X T W e f) : SE X T W e (frz f) := impE h fun σ H Q ⟨F0, B0, A, F, ε, rel, p⟩ => ⟨F0, B0, A, F, ε, rel, (post_bind p).imp fun o ε1 F1 H1 s1 rel1 p1 => by
  intro q ho fq bq hq ro no
  obtain ⟨d, e1, p2⟩ := post_of p1
  cases o with
  | i c fs => cases e1
  | d kvs => cases e1
  | l xs =>
    cases e1
    cases ho with
    | lst vs =>
      have sf : Same F1 (upd F1 q (.lst vs)) := Same.new fq
      have r2 : Rep T (upd F1 q (.lst vs)) (.lst xs) (.ref q) := by
        simp only [Rep]
        exact ⟨q, vs, rfl, upd_same, Reps.mono sf ro⟩
      refine p2 (upd F1 q (.lst vs)) H1 sf ⟨rel1.f0.trans sf, fun y u hy => ?_, rel1.bh, fun y hy => ?_, rel1.len, fun j s ej => ?_, rel1.nd⟩ _ r2
      · by_cases z : y = q
        · subst z
          rw [upd_same] at hy
          cases hy
          exact hq
        · rw [upd_ne z] at hy
          exact rel1.fh y u hy
      · by_cases z : y = q
        · subst z
          exact .inr bq
        · rw [upd_ne z] at hy
          exact rel1.fr y hy
      · have z := rel1.sl j s ej
        cases s with
        | no => trivial
        | sh d =>
          obtain ⟨u, e1, e2⟩ := z
          exact ⟨u, e1, e2.mono sf⟩
        | ow k1 o1 =>
          obtain ⟨b, hb, e2, fb, bb, kb, hhb, rb⟩ := z
          refine ⟨b, hb, e2, ?_, bb, kb, hhb, rb.mono sf⟩
          rw [upd_ne]
          · exact fb
          · rintro rfl
            exact no j ⟨⟨_, _, ej⟩, e2⟩
    | _ => exact ro.elim⟩

/-! ### operators -/
def OpS (T : Tb) (r : R2) (g : D → D → Option D) : Prop := ∀ F H x y z v u Q, Rep T F x v → Rep T F y u → Same F H → g x y = some z → (∀ w F' H', Grow F H F' H' → Rep T F' z w → Q w H') → r v u H Q
def UnS (T : Tb) (r : V → Hp → VK → Prop) (g : D → Option D) : Prop := ∀ F H x z v Q, Rep T F x v → Same F H → g x = some z → (∀ w F' H', Grow F H F' H' → Rep T F' z w → Q w H') → r v H Q
def CaS (T : Tb) (r : List V → Hp → VK → Prop) (g : List D → Option D) : Prop := ∀ F H xs z vs Q, Reps T F xs vs → Same F H → g xs = some z → (∀ w F' H', Grow F H F' H' → Rep T F' z w → Q w H') → r vs H Q
theorem op2 {r : R2} {g : D → D → Option D} (hs : OpS T r g) {σ : St} {H : Hp} {Q : VK} (h : EvP T W (bin g fa fb) σ H Q) : tOp r (EvP T W fa) (EvP T W fb) σ H Q := by
  obtain ⟨F0, B0, A, F, ε, rel, p⟩ := h
  exact ⟨F0, B0, A, F, ε, rel, (post_bind p).imp fun x ε1 F1 H1 s1 rel1 p1 v rv => ⟨F0, B0, A, F1, ε1, rel1, (post_bind p1).imp fun y ε2 F2 H2 s2 rel2 p2 u ru => by
    obtain ⟨z, e, hz⟩ := post_of p2
    exact hs F2 H2 x y z v u Q (rv.mono s2) ru rel2.fh e fun w F' H' gr rw => hz F' H' gr.ff (rel2.grow gr) w rw⟩⟩
theorem sE_bin {op : Operator} {r : R2} {g : D → D → Option D} (ho : OpR X (binaryOp op) r) (hs : OpS T r g) (ha : SE X T W a fa) (hb : SE X T W b fb) : SE X T W (.BinOp a op b pos) (bin g fa fb) := impE (pe_op ho ha hb) fun _ _ _ h => op2 hs h
theorem sE_cmp {op : CmpOp} {r : R2} {g : D → D → Option D} (ho : OpR X (compareOp op) r) (hs : OpS T r g) (ha : SE X T W a fa) (hb : SE X T W b fb) (hm : behindInMarks op b = false) : SE X T W (.Compare a [op] [b] pos) (bin g fa fb) := impE (pe_cmpR ho ha hb hm) fun _ _ _ h => op2 hs h
theorem sT_cmp {op : CmpOp} {r : R2} {g : D → D → Option D} (ho : OpR X (compareOp op) r) (hs : OpS T r g) (ha : SE X T W a fa) (hb : SE X T W b fb) (hm : behindInMarks op b = false) : ST X T W (.Compare a [op] [b] pos) (tB (bin g fa fb)) := impT (pt_cmpR ho ha hb hm) fun σ H Q ⟨F0, B0, A, F, ε, rel, p⟩ => op2 (W := W) (fa := fa) (fb := fb) hs ⟨F0, B0, A, F, ε, rel, (post_bind p).imp fun x ε1 F1 H1 s1 rel1 p1 v rv => by
    cases x with
    | bl k =>
      simp only [Rep] at rv
      exact ⟨k, rv, p1 F1 H1 (.refl _) rel1⟩
    | _ => exact p1.elim⟩
theorem sE_un {op : UnaryOp} {r : V → Hp → VK → Prop} {g : D → Option D} (ho : UnR X (unaryOp op) r) (hs : UnS T r g) (ha : SE X T W a fa) : SE X T W (.UnaryOp op a pos) (un g fa) := impE (pe_un ho ha) fun σ H Q ⟨F0, B0, A, F, ε, rel, p⟩ =>
  ⟨F0, B0, A, F, ε, rel, (post_bind p).imp fun x ε1 F1 H1 s1 rel1 p1 v rv => by
    obtain ⟨z, e, hz⟩ := post_of p1
    exact hs F1 H1 x z v Q rv rel1.fh e fun w F' H' gr rw => hz F' H' gr.ff (rel1.grow gr) w rw⟩

/-! ### subscripts, arguments, calls of built-ins -/
theorem sE_ix {r : R2} {g : D → D → Option D} (hr : IxR X r) (hs : OpS T r g) (ha : SE X T W a fa) (hb : SE X T W b fb) (hp : PlainIx b) : SE X T W (.Subscript a b pos) (bin g fa fb) := impE (pe_ix hr ha hb hp) fun _ _ _ h => op2 hs h
theorem sA_nil : SA X T W [] aNil := impA pa_nil fun σ H Q ⟨F0, B0, A, F, ε, rel, p⟩ => p F H (.refl _) rel [] .nil
theorem sA_cons {es : List Expr} {fr : FA} (ha : SE X T W e fe) (hr : SA X T W es fr) (hs : starEach (e :: es) X.env = (false, eval e X.env) :: starEach es X.env := by rfl) : SA X T W (e :: es) (aCons fe fr) := impA (pa_cons ha hr hs) fun σ H Q ⟨F0, B0, A, F, ε, rel, p⟩ =>
  ⟨F0, B0, A, F, ε, rel, (post_bind p).imp fun x ε1 F1 H1 s1 rel1 p1 v rv => ⟨F0, B0, A, F1, ε1, rel1, (post_bind p1).imp fun xs ε2 F2 H2 s2 rel2 p2 vs rvs => p2 F2 H2 (.refl _) rel2 (v :: vs) (.cons (rv.mono s2) rvs)⟩⟩
theorem tcb {r : List V → Hp → VK → Prop} {g : List D → Option D} {fr : FA} (hs : CaS T r g) {σ : St} {H : Hp} {Q : VK} (h : EvP T W (bi g fr) σ H Q) : tCB r (EvA T W fr) σ H Q := by
  obtain ⟨F0, B0, A, F, ε, rel, p⟩ := h
  exact ⟨F0, B0, A, F, ε, rel, (post_bind p).imp fun xs ε1 F1 H1 s1 rel1 p1 vs rvs => by
    obtain ⟨z, e, hz⟩ := post_of p1
    exact hs F1 H1 xs z vs Q rvs rel1.fh e fun w F' H' gr rw => hz F' H' gr.ff (rel1.grow gr) w rw⟩
theorem sE_imp {t : TE} {f : FE} (h : PE X e t) (i : ∀ σ H Q, EvP T W f σ H Q → t σ H Q) : SE X T W e f := impE h i

/-! ### displays -/
theorem line_le {n : Nat} (h : n ≤ line) : n ≤ sizeLine := Nat.le_trans h (by rw [sizeLine_eq]; decide)
theorem line_lt {n : Nat} (h : n < line) : n < sizeLine := Nat.lt_of_lt_of_le h (by rw [sizeLine_eq]; decide)

/-! ### fields -/
structure Fd (K : PySem.W.Frag) (T : Tb) (f : Str) (ix : Nat → Option Nat) : Prop where
  ok : ∀ c j, ix c = some j → (T.nm c)[j]? = some f ∧ (T.nm c).Nodup ∧ Cls K (T.ad c) ∧ NoAttr K (T.ad c) f
theorem lookup_zip : ∀ {ns : List Str} {vs : List V} {j : Nat} {f : Str} {v : V}, ns.Nodup → ns[j]? = some f → vs[j]? = some v → (ns.zip vs).lookup f = some v
  | [], _, j, f, v, _, h, _ => by simp at h
  | n :: ns, [], j, f, v, _, _, h => by simp at h
  | n :: ns, u :: vs, 0, f, v, nd, h, g => by
    simp at h g
    subst h g
    simp [List.zip_cons_cons]
  | n :: ns, u :: vs, j + 1, f, v, nd, h, g => by
    simp at h g
    have nd' := List.nodup_cons.mp nd
    have ne : f ≠ n := fun z => nd'.1 (z ▸ List.mem_of_getElem? h)
    have ne' : (f == n) = false := by simpa using ne
    simp only [List.zip_cons_cons, List.lookup_cons, ne']
    exact lookup_zip nd'.2 h g
theorem sE_fld {f : Str} {ix : Nat → Option Nat} (hf : Fd X.K T f ix) (ha : SE X T W a fa) (hb : attributeBase a f X.env (eval a X.env) = eval a X.env) : SE X T W (.Attribute a f pos) (fld ix fa) := impE (pe_fld ha hb) fun σ H Q ⟨F0, B0, A, F, ε, rel, p⟩ =>
  ⟨F0, B0, A, F, ε, rel, (post_bind p).imp fun x ε1 F1 H1 s1 rel1 p1 v rv => by
    cases x with
    | ins c fs =>
      obtain ⟨j, e1, p2⟩ := post_of p1
      obtain ⟨z, e2, p3⟩ := post_of p2
      obtain ⟨n1, n2, n3, n4⟩ := hf.ok c j e1
      simp only [Rep] at rv
      obtain ⟨q, dx, vs, rfl, h1, hl, h2⟩ := rv
      obtain ⟨w, e3, rw⟩ := h2.get e2
      exact ⟨q, _, dx, _, w, rfl, rel1.fh _ _ h1, n3, n4, lookup_zip n2 n1 e3, p3 F1 H1 (.refl _) rel1 w rw⟩
    | _ => exact p1.elim⟩

/-! ### if-expressions, and, or, not -/
theorem sE_if {c : Expr} {t : FT} (hc : ST X T W c t) (ha : SE X T W a fa) (hb : SE X T W b fb) : SE X T W (.IfExp c a b pos) (ifE t fa fb) := impE (pe_ifExp hc ha hb) fun σ H Q ⟨F0, B0, A, F, ε, rel, p⟩ =>
  ⟨F0, B0, A, F, ε, rel, (post_bind p).imp fun c ε1 F1 H1 s1 rel1 p1 => by
    cases c with
    | true => exact iteT ⟨F0, B0, A, F1, ε1, rel1, p1⟩
    | false => exact iteF ⟨F0, B0, A, F1, ε1, rel1, p1⟩⟩
theorem sT_and1 {t : FT} (ha : ST X T W a t) : SW X T W (.BoolOp .And [a] pos) t := pw_and1 ha
theorem sT_or1 {t : FT} (ha : ST X T W a t) : SW X T W (.BoolOp .Or [a] pos) t := pw_or1 ha
theorem sT_and {t u : FT} {rest : List Expr} (ha : ST X T W a t) (hb : SW X T W (.BoolOp .And (b :: rest) pos) u) : SW X T W (.BoolOp .And (a :: b :: rest) pos) (tAnd t u) := impW (pw_and ha hb) fun σ H Q ⟨F0, B0, A, F, ε, rel, p⟩ =>
  ⟨F0, B0, A, F, ε, rel, (post_bind p).imp fun c ε1 F1 H1 s1 rel1 p1 => by
    cases c with
    | true => exact iteT ⟨F0, B0, A, F1, ε1, rel1, p1⟩
    | false => exact iteF (p1 F1 H1 (.refl _) rel1)⟩
theorem sT_or {t u : FT} {rest : List Expr} (ha : ST X T W a t) (hb : SW X T W (.BoolOp .Or (b :: rest) pos) u) : SW X T W (.BoolOp .Or (a :: b :: rest) pos) (tOr t u) := impW (pw_or ha hb) fun σ H Q ⟨F0, B0, A, F, ε, rel, p⟩ =>
  ⟨F0, B0, A, F, ε, rel, (post_bind p).imp fun c ε1 F1 H1 s1 rel1 p1 => by
    cases c with
    | true => exact iteT (p1 F1 H1 (.refl _) rel1)
    | false => exact iteF ⟨F0, B0, A, F1, ε1, rel1, p1⟩⟩
theorem sT_bo {t : FT} (h : SW X T W e t) : ST X T W e t := h.pt
theorem sT_not {t : FT} (ha : ST X T W a t) : ST X T W (.UnaryOp .Not a pos) (tNot t) := impT (pt_not ha) fun σ H Q ⟨F0, B0, A, F, ε, rel, p⟩ =>
  ⟨F0, B0, A, F, ε, rel, (post_bind p).imp fun c ε1 F1 H1 s1 rel1 p1 => p1 F1 H1 (.refl _) rel1⟩
/-- a True or False as a test -/
theorem sT_val (ha : SE X T W e fa) (he : ∀ whole, isTrue e X.env whole = (do let v ← whole; standAt e.pos; holding [v] (truthy v)) := by intro _; rfl) : ST X T W e (EV.tB fa) := impT (pt_val ha he) fun σ H Q ⟨F0, B0, A, F, ε, rel, p⟩ =>
  ⟨F0, B0, A, F, ε, rel, (post_bind p).imp fun x ε1 F1 H1 s1 rel1 p1 v rv => by
    cases x with
    | bl k =>
      simp only [Rep] at rv
      exact ⟨k, rv, p1 F1 H1 (.refl _) rel1⟩
    | _ => exact p1.elim⟩
end
end EV
set_option maxRecDepth 100000
/-! EvT: statements, loops, what is walked, comprehensions. -/
namespace EV
open PySem L2
section
variable {X : Cx} {T : Tb} {W : WX} {pos : Pos} {a b e : Expr} {fa fb fe : FE} {st : Stmt} {sts : List Stmt} {g1 g2 : FS}
theorem post_seq {F0 B0 F : Hp} {A : List Addr} {ε : Env} {Dn : Ends} (p : PostS T W F0 B0 A F (EV.seq g1 g2 ε) Dn) : PostS T W F0 B0 A F (g1 ε) { Dn with nx := EvS T W g2 Dn } := by
  unfold EV.seq at p
  cases h : g1 ε with
  | bot => rw [h] at p; exact p
  | ex c fs ε' => rw [h] at p; exact p
  | ok fl ε' =>
    rw [h] at p
    cases fl with
    | nx => exact fun σ' F' H' s rel => ⟨F0, B0, A, F', ε', rel, PostS.monoF s p⟩
    | br => exact p
    | ct => exact p
    | rt d => exact p
    | ro o => exact p
theorem sSs_nil : SSs X T W [] sNx := impSs pss_nil fun Dn σ H ⟨F0, B0, A, F, ε, rel, p⟩ => p σ F H (.refl _) rel
theorem sSs_cons (h1 : SS X T W st g1) (h2 : SSs X T W sts g2) : SSs X T W (st :: sts) (EV.seq g1 g2) := impSs (pss_cons h1 h2) fun Dn σ H ⟨F0, B0, A, F, ε, rel, p⟩ => ⟨F0, B0, A, F, ε, rel, post_seq p⟩
theorem sSs_one (h1 : SS X T W st g1) : SSs X T W [st] g1 := impSs (pss_one h1) fun Dn σ H p => p
theorem sS_pass : SS X T W (.Pass pos) sNx := impS ps_pass fun Dn σ H ⟨F0, B0, A, F, ε, rel, p⟩ => p σ F H (.refl _) rel
theorem sS_break : SS X T W (.Break pos) sBr := impS ps_break fun Dn σ H ⟨F0, B0, A, F, ε, rel, p⟩ => p σ F H (.refl _) rel
theorem sS_continue : SS X T W (.Continue pos) sCt := impS ps_continue fun Dn σ H ⟨F0, B0, A, F, ε, rel, p⟩ => p σ F H (.refl _) rel
theorem sS_expr (he : SE X T W e fe) (hs : swapsWith e none pos.line X.env = pure false := by rfl) : SS X T W (.Expr e pos) (exprS fe) := impS (ps_expr he hs) fun Dn σ H ⟨F0, B0, A, F, ε, rel, p⟩ =>
  ⟨F0, B0, A, F, ε, rel, (postS_bind p).imp fun x ε1 F1 H1 s1 rel1 p1 v rv => p1 σ F1 H1 (.refl _) rel1⟩
theorem sS_ret (he : SE X T W e fe) : SS X T W (.Return (some e) pos) (EV.ret fe) := impS (ps_ret he) fun Dn σ H ⟨F0, B0, A, F, ε, rel, p⟩ =>
  ⟨F0, B0, A, F, ε, rel, (postS_bind p).imp fun x ε1 F1 H1 s1 rel1 p1 v rv => p1 σ F1 H1 (.refl _) rel1 v rv⟩
theorem sS_retO {fo : FO} (he : SO X T W e fo) : SS X T W (.Return (some e) pos) (EV.retO fo) := impS (ps_ret he) fun Dn σ H ⟨F0, B0, A, F, ε, rel, p⟩ =>
  ⟨F0, B0, A, F, ε, rel, (postS_bind p).imp fun x ε1 F1 H1 s1 rel1 p1 q ho h1 h2 h3 h4 h5 => p1 σ F1 H1 (.refl _) rel1 q ho h1 h2 h3 h4 h5⟩
theorem sS_retN : SS X T W (.Return none pos) EV.retN := impS ps_retN fun Dn σ H ⟨F0, B0, A, F, ε, rel, p⟩ => p σ F H (.refl _) rel .non (by simp only [Rep])
theorem sS_if {c : Expr} {xs ys : List Stmt} {t : FT} (hc : ST X T W c t) (ha : SSs X T W xs g1) (hb : SSs X T W ys g2) : SS X T W (.If c xs ys pos) (EV.ifS t g1 g2) := impS (ps_if hc ha hb) fun Dn σ H ⟨F0, B0, A, F, ε, rel, p⟩ =>
  ⟨F0, B0, A, F, ε, rel, (postS_bind p).imp fun c ε1 F1 H1 s1 rel1 p1 => by
    cases c with
    | true => exact iteT ⟨F0, B0, A, F1, ε1, rel1, p1⟩
    | false => exact iteF ⟨F0, B0, A, F1, ε1, rel1, p1⟩⟩

/-! ### targets -/
def GS (T : Tb) (g : TG) (h : FG) (ws : List Nat) : Prop := ∀ F0 B0 A F H σ ε d v ε' (Q : St → Hp → Prop), RelE T F0 B0 A F H σ ε → Rep T F d v → h d ε = some ε' →
  (∀ σ', RelE T F0 B0 A F H σ' ε' → (∀ vs : List Nat, (∀ j ∈ ws, j ∈ vs) → wipe σ' vs = wipe σ vs) → Q σ' H) → g v σ H Q
def GsS (T : Tb) (g : TGs) (h : FGs) (ws : List Nat) (n : Nat) : Prop := (∀ ds ε ε', h ds ε = some ε' → ds.length = n) ∧ ∀ F0 B0 A F H σ ε ds vs ε' (Q : St → Hp → Prop), RelE T F0 B0 A F H σ ε → Reps T F ds vs → h ds ε = some ε' →
  (∀ σ', RelE T F0 B0 A F H σ' ε' → (∀ vs : List Nat, (∀ j ∈ ws, j ∈ vs) → wipe σ' vs = wipe σ vs) → Q σ' H) → g vs σ H Q
theorem wipe_get : ∀ {vs : List Nat} {σ : L2.St} {j : Nat}, (wipe σ vs)[j]? = if j ∈ vs then (if j < σ.length then some none else none) else σ[j]?
  | [], σ, j => by simp [wipe]
  | v :: vs, σ, j => by
    unfold wipe
    by_cases e : j = v
    · subst e
      by_cases hl : j < σ.length
      · rw [List.getElem?_set_self (by rw [wipe_length]; exact hl)]
        simp [hl]
      · rw [List.getElem?_eq_none (by rw [List.length_set, wipe_length]; omega)]
        simp [hl]
    · rw [List.getElem?_set_ne (Ne.symm e), wipe_get]
      simp [e]
theorem wipe_set {σ : L2.St} {i : Nat} {x : Option V} {vs : List Nat} (h : i ∈ vs) : wipe (σ.set i x) vs = wipe σ vs := by
  apply List.ext_getElem?
  intro j
  rw [wipe_get, wipe_get]
  by_cases e : j ∈ vs
  · simp [e]
  · simp only [e, if_false]
    rw [List.getElem?_set_ne]
    rintro rfl
    exact e h
theorem gs_N {i : Nat} : GS T (gName i) (gN i) [i] := fun F0 B0 A F H σ ε d v ε' Q rel r e k => by
  cases e
  exact k _ (rel.setSh r) fun vs hv => wipe_set (hv i (by simp))
theorem gs_nil : GsS T gNil gsNil [] 0 := by
  refine ⟨fun ds ε ε' e => ?_, fun F0 B0 A F H σ ε ds vs ε' Q rel r e k => ?_⟩
  · cases ds with
    | nil => rfl
    | cons d ds => cases e
  · cases ds with
    | nil =>
      cases e
      exact ⟨reps_nil.mp r, k σ rel fun _ _ => rfl⟩
    | cons d ds => cases e
theorem gs_cons {g : TG} {gs : TGs} {h : FG} {hs : FGs} {ws ws' : List Nat} {n : Nat} (h1 : GS T g h ws) (h2 : GsS T gs hs ws' n) : GsS T (gCons g gs) (gsCons h hs) (ws ++ ws') (n + 1) := by
  refine ⟨fun ds ε ε' e => ?_, fun F0 B0 A F H σ ε ds vs ε' Q rel r e k => ?_⟩
  · cases ds with
    | nil => cases e
    | cons d ds =>
      simp only [gsCons] at e
      split at e
      · simp [h2.1 _ _ _ e]
      · cases e
  · cases ds with
    | nil => cases e
    | cons d ds =>
      obtain ⟨v, us, rfl, r1, r2⟩ := reps_cons.mp r
      simp only [gsCons] at e
      split at e
      · rename_i ε1 e1
        refine ⟨v, us, rfl, h1 F0 B0 A F H σ ε d v ε1 _ rel r1 e1 fun σ1 rel1 w1 => h2.2 F0 B0 A F H σ1 ε1 ds us ε' Q rel1 r2 e fun σ2 rel2 w2 => k σ2 rel2 fun vs hv => ?_⟩
        rw [w2 vs fun j hj => hv j (List.mem_append_right _ hj), w1 vs fun j hj => hv j (List.mem_append_left _ hj)]
      · cases e
theorem gs_T {K : PySem.W.Frag} {gs : TGs} {hs : FGs} {ws : List Nat} {n : Nat} (h2 : GsS T gs hs ws n) : GS T (gTup K n gs) (gT hs) ws := fun F0 B0 A F H σ ε d v ε' Q rel r e k => by
  cases d with
  | tup xs =>
    simp only [Rep] at r
    obtain ⟨a, vs, rfl, h1, r1⟩ := r
    refine ⟨a, vs, rfl, SqT.of (rel.fh _ _ h1), ?_, h2.2 F0 B0 A F H σ ε xs vs ε' Q rel r1 e k⟩
    rw [← r1.length]
    exact h2.1 _ _ _ e
  | _ => cases e

/-! ### assignments -/
theorem asg_of {te : TE} {i : Nat} {f : FE} (h : PS X st (tAsg te (gName i))) (k : ∀ σ H Q, EvP T W f σ H Q → te σ H Q) : SS X T W st (asg (gN i) f) := impS h fun Dn σ H ⟨F0, B0, A, F, ε, rel, p⟩ =>
  k _ _ _ ⟨F0, B0, A, F, ε, rel, (postS_bind p).imp fun d ε1 F1 H1 s1 rel1 p1 v rv => by
    obtain ⟨ε2, e, p2⟩ := postS_of p1
    exact gs_N F0 B0 A F1 H1 σ ε1 d v ε2 Dn.nx rel1 rv e fun σ' rel' _ => p2 σ' F1 H1 (.refl _) rel'⟩
theorem asgO_of {te : TE} {i : Nat} {f : FO} (h : PS X st (tAsg te (gName i))) (k : ∀ σ H Q, EvO T W f σ H Q → te σ H Q) : SS X T W st (asgO i f) := impS h fun Dn σ H ⟨F0, B0, A, F, ε, rel, p⟩ =>
  k _ _ _ ⟨F0, B0, A, F, ε, rel, (postS_bind p).imp fun o ε1 F1 H1 s1 rel1 p1 q ho fq bq hq ro no => p1 _ F1 H1 (.refl _) (rel1.setOw fq bq hq ro no)⟩
theorem sS_asg {tg : Expr} {g : TG} {h : FG} {ws : List Nat} (he : SE X T W e fe) (hg : PG X tg g) (gs : GS T g h ws) (hs : swapsWithSole [tg] e pos.line X.env = pure false := by rfl) (hw : swappedStores [tg] e X.env = pure none := by rfl)
    (h1 : (assignEach [tg] X.env).map (·.2) = [assign tg X.env] := by rfl) : SS X T W (.Assign [tg] e pos) (asg h fe) := impS (ps_asg he hg hs hw h1) fun Dn σ H ⟨F0, B0, A, F, ε, rel, p⟩ =>
  ⟨F0, B0, A, F, ε, rel, (postS_bind p).imp fun d ε1 F1 H1 s1 rel1 p1 v rv => by
    obtain ⟨ε2, e, p2⟩ := postS_of p1
    exact gs F0 B0 A F1 H1 σ ε1 d v ε2 Dn.nx rel1 rv e fun σ' rel' _ => p2 σ' F1 H1 (.refl _) rel'⟩
theorem has_get {F0 B0 F H : Hp} {A : List Addr} {σ : L2.St} {ε : Env} {i : Nat} (r : RelE T F0 B0 A F H σ ε) (h : has ε i = true) : ∃ v, σ[i]? = some (some v) := by
  unfold has at h
  split at h
  · rename_i d e
    obtain ⟨u, e1, _⟩ := r.sl i _ e
    exact ⟨u, e1⟩
  · rename_i k o e
    obtain ⟨a, _, e1, _⟩ := r.sl i _ e
    exact ⟨_, e1⟩
  · cases h
/-- x[e] = v -/
theorem sS_setI {o ie : Expr} {i : Nat} {fi fv : FE} {pos' : Pos} (ho : PE X o (tVar i)) (hi : SE X T W ie fi) (hv : SE X T W e fv) (hs : swapsWithSole [.Subscript o ie pos'] e pos.line X.env = pure false := by rfl) (hw : swappedStores [.Subscript o ie pos'] e X.env = pure none := by rfl)
    (h1 : (assignEach [.Subscript o ie pos'] X.env).map (·.2) = [assign (.Subscript o ie pos') X.env] := by rfl) (hg : PG X (.Subscript o ie pos') (gSub (tVar i) (EvP T W fi) rSetL)) : SS X T W (.Assign [.Subscript o ie pos'] e pos) (setI i fi fv) :=
  impS (ps_asg hv hg hs hw h1) fun Dn σ H ⟨F0, B0, A, F, ε, rel, p⟩ =>
  ⟨F0, B0, A, F, ε, rel, (postS_bind p).imp fun v ε1 F1 H1 s1 rel1 p1 vv rv => by
    simp only [len_eq, setN_eq] at p1
    split at p1
    · rename_i hh
      obtain ⟨a, ea⟩ := has_get rel1 hh
      refine ⟨a, ea, F0, B0, A, F1, ε1, rel1, (postS_bind p1).imp fun k ε2 F2 H2 s2 rel2 p2 kv rk => ?_⟩
      cases k with
      | int n =>
        simp only [Rep] at rk
        simp only at p2
        split at p2
        · rename_i kk xs he
          obtain ⟨j, ej, p3⟩ := postS_of p2
          obtain ⟨a', ho', e1, fa, ba, ka, ha, ro⟩ := rel2.sl i _ he
          have z : a = .ref a' := by rw [ea] at e1; cases e1; rfl
          subst z
          cases ho' with
          | lst vs =>
            have hl : xs.length = vs.length := Reps.length ro
            refine ⟨a', vs, n, j, rfl, rk, ha, ?_, ?_⟩
            · rw [← hl]
              exact ej
            · exact p3 σ F2 _ (.refl _) (rel2.wrOw he e1 (ho := .lst (vs.set j vv)) (Reps.set (rv.mono s2) j ro))
          | _ => exact ro.elim
        · exact p2.elim
      | _ => exact p2.elim
    · exact p1.elim⟩
end
end EV
set_option maxRecDepth 100000
/-! EvU: what is done to an own object; loops; what is walked. -/
namespace EV
open PySem L2
theorem getN_atI {α : Type} {xs : List α} {i : Int} {v : α} (h : getN xs i = some v) : atI xs i = some v := by
  rw [getN_def] at h
  unfold atI L2.ixN
  split at h
  · rename_i h0
    have := lt_of_get h
    rw [if_pos h0, if_pos (by omega)]
    exact h
  · rename_i h0
    split at h
    · rename_i h1
      rw [if_neg h0, if_pos h1]
      exact h
    · cases h
theorem getN_reps {T : Tb} {F : Hp} {xs : List D} {vs : List V} {i : Int} {d : D} (r : Reps T F xs vs) (h : getN xs i = some d) : ∃ v, getN vs i = some v ∧ Rep T F d v := by
  rw [getN_def] at h
  rw [getN_def]
  rw [← r.length]
  split at h
  · rename_i h0
    rw [if_pos h0]
    exact r.get h
  · rename_i h0
    rw [if_neg h0]
    split at h
    · rename_i h1
      rw [if_pos h1]
      exact r.get h
    · cases h
section
variable {X : Cx} {T : Tb} {W : WX} {pos : Pos} {a b e : Expr} {fa fb fe : FE} {st : Stmt} {sts : List Stmt} {g1 g2 : FS}
theorem hasL_get {F0 B0 F H : Hp} {A : List Addr} {σ : L2.St} {ε : Env} {i : Nat} (r : RelE T F0 B0 A F H σ ε) (h : hasL ε i = true) : ∃ a vs, σ[i]? = some (some (.ref a)) ∧ H a = some (.lst vs) := by
  unfold hasL at h
  split at h
  · rename_i k xs e
    obtain ⟨a, ho, e1, _, _, _, ha, ro⟩ := r.sl i _ e
    cases ho with
    | lst vs => exact ⟨a, vs, e1, ha⟩
    | _ => exact ro.elim
  · cases h
/-- x.append(e) -/
theorem sS_app {i : Nat} (h : PE X e (tBM X.K "list" rAppend (tVar i) (EvA T W (aCons fa aNil)))) (hs : swapsWith e none pos.line X.env = pure false := by rfl) : SS X T W (.Expr e pos) (app i fa) := impS (ps_expr h hs) fun Dn σ H ⟨F0, B0, A, F, ε, rel, p⟩ => by
  unfold app at p
  simp only [len_eq, snoc_eq] at p
  split at p
  · rename_i hh
    obtain ⟨a, vs0, ev, hv0⟩ := hasL_get rel hh
    have pb := postS_bind (σ := σ) p
    refine ⟨_, ev, .inl ⟨rfl, _, SqL.of hv0⟩, F0, B0, A, F, ε, rel, ?_⟩
    unfold aCons aNil
    cases hfa : fa ε with
    | bot => rw [hfa] at pb; exact pb
    | ex c fs ε' => rw [hfa] at pb; exact pb
    | ok x ε1 =>
      rw [hfa] at pb
      intro F1 H1 s1 rel1 vs rvs
      obtain ⟨w, us, rfl, rw, r2⟩ := reps_cons.mp rvs
      cases reps_nil.mp r2
      have p1 := pb F1 H1 s1 rel1
      dsimp only at p1
      split at p1
      · rename_i k xs he
        obtain ⟨a', ho, e1, fa, ba, ka, ha, ro⟩ := rel1.sl i _ he
        have q : a = a' := by rw [ev] at e1; cases e1; rfl
        subst q
        split at p1
        · rename_i hl
          cases ho with
          | lst vs =>
            have hl2 : xs.length = vs.length := Reps.length ro
            refine ⟨a, vs, w, rfl, rfl, ha, line_lt (by rw [← hl2]; exact hl), ?_⟩
            exact p1 σ F1 _ (.refl _) (rel1.wrOw he e1 (ho := .lst (vs ++ [w])) (Reps.append ro (.cons rw .nil)))
          | _ => exact ro.elim
        · exact p1.elim
      · exact p1.elim
  · exact p.elim
/-- x op= e -/
theorem sS_aug {i : Nat} {ti : TIp} {g : D → D → Option D} (h : PS X st (tAug i (EvP T W fa) ti)) (hs : OpS T ti g) : SS X T W st (aug g i fa) := impS h fun Dn σ H ⟨F0, B0, A, F, ε, rel, p⟩ => by
  unfold aug at p
  split at p
  · rename_i x he
    obtain ⟨u, e1, r⟩ := rel.sl i _ he
    refine ⟨u, e1, F0, B0, A, F, ε, rel, (postS_bind p).imp fun y ε1 F1 H1 s1 rel1 p1 v rv => ?_⟩
    obtain ⟨z, ez, p2⟩ := postS_of p1
    exact hs F1 H1 x y z u v _ (r.mono s1) rv rel1.fh ez fun w F' H' gr rw => p2 _ F' H' gr.ff ((rel1.grow gr).setSh rw)
  · exact p.elim

/-! ### an object that is being made -/
theorem putF_new : ∀ {gs : List (Str × V)} {f : Str} {v : V}, gs.lookup f = none → putF f v gs = gs ++ [(f, v)]
  | [], f, v, _ => rfl
  | (g, u) :: gs, f, v, h => by
    simp only [List.lookup_cons] at h
    split at h
    · cases h
    · rename_i hne
      have ne : ¬ g = f := fun z => by simp [z] at hne
      unfold putF
      rw [if_neg ne, putF_new h]
      rfl
theorem lookup_none_of {gs : List (Str × V)} {fs : List (Str × D)} (h : gs.map (·.1) = fs.map (·.1)) {f : Str} (n : fs.lookup f = none) : gs.lookup f = none := by
  induction fs generalizing gs with
  | nil =>
    cases gs with
    | nil => rfl
    | cons g gs => simp at h
  | cons p fs ih =>
    cases gs with
    | nil => simp at h
    | cons g gs =>
      obtain ⟨g1, g2⟩ := g
      obtain ⟨p1, p2⟩ := p
      simp at h
      obtain ⟨h1, h2⟩ := h
      subst h1
      simp only [List.lookup_cons] at n ⊢
      split at n
      · cases n
      · exact ih h2 n
theorem lookup_some_of {F : Hp} {gs : List (Str × V)} {fs : List (Str × D)} (h : gs.map (·.1) = fs.map (·.1)) (r : Reps T F (fs.map (·.2)) (gs.map (·.2))) {f : Str} {d : D} (n : fs.lookup f = some d) : ∃ v, gs.lookup f = some v ∧ Rep T F d v := by
  induction fs generalizing gs with
  | nil => simp at n
  | cons p fs ih =>
    cases gs with
    | nil => simp at h
    | cons g gs =>
      obtain ⟨g1, g2⟩ := g
      obtain ⟨p1, p2⟩ := p
      simp at h
      obtain ⟨h1, h2⟩ := h
      subst h1
      simp only [List.map_cons] at r
      obtain ⟨v, us, e, r1, r2⟩ := reps_cons.mp r
      cases e
      simp only [List.lookup_cons] at n ⊢
      split at n
      · rename_i he
        cases n
        exact ⟨g2, rfl, r1⟩
      · rename_i hne
        exact ih h2 r2 n
/-- self.f = e -/
theorem sS_setF {i c : Nat} {f : Str} (h : PS X st (sFld X.K (tVar i) (EvP T W fa) f)) (hc : Cls X.K (T.ad c)) (hn : NoAttr X.K (T.ad c) f) : SS X T W st (setF c i f fa) := impS h fun Dn σ H ⟨F0, B0, A, F, ε, rel, p⟩ =>
  ⟨F0, B0, A, F, ε, rel, (postS_bind p).imp fun x ε1 F1 H1 s1 rel1 p1 v rv => by
    split at p1
    · rename_i k c' fs he
      split at p1
      · rename_i hk
        obtain ⟨rfl, h1, h2⟩ := hk
        obtain ⟨a', ho, e1, fa, ba, ka, ha, ro⟩ := rel1.sl i _ he
        cases ho with
        | ins C dx gs =>
          obtain ⟨rfl, r1, r2⟩ := ro
          have hl : gs.length = fs.length := by simpa using congrArg List.length r1
          have nn : fs.lookup f = none := by simpa using h1
          have n2 := lookup_none_of r1 nn
          refine ⟨_, e1, a', _, dx, gs, rfl, ha, hc, hn, by omega, ?_⟩
          rw [putF_new n2]
          refine p1 σ F1 _ (.refl _) (rel1.wrOw he e1 (ho := .ins _ dx (gs ++ [(f, v)])) ⟨rfl, by simp [r1], ?_⟩)
          rw [List.map_append, List.map_append]
          exact Reps.append r2 (.cons rv .nil)
        | _ => exact ro.elim
      · exact p1.elim
    · exact p1.elim⟩
/-- self.f -/
theorem sE_fldN {i c : Nat} {f : Str} (h : PE X e (tFld X.K (tVar i) f)) (hc : Cls X.K (T.ad c)) (hn : NoAttr X.K (T.ad c) f) : SE X T W e (fldN c i f) := impE h fun σ H Q ⟨F0, B0, A, F, ε, rel, p⟩ => by
  unfold fldN at p
  split at p
  · rename_i k c' fs he
    split at p
    · rename_i hk
      subst hk
      obtain ⟨z, ez, p2⟩ := post_of p
      obtain ⟨a', ho, e1, fa, ba, ka, ha, ro⟩ := rel.sl i _ he
      cases ho with
      | ins C dx gs =>
        obtain ⟨rfl, r1, r2⟩ := ro
        obtain ⟨v, ev, rv⟩ := lookup_some_of r1 r2 ez
        exact ⟨_, e1, a', _, dx, gs, v, rfl, ha, hc, hn, ev, p2 F H (.refl _) rel v rv⟩
      | _ => exact ro.elim
    · exact p.elim
  · exact p.elim

/-! ### what is walked -/
def IterS (T : Tb) (J : It) (F : Hp) (items : List D) : Prop := ∀ (i : Nat) F1 H1, Same F F1 → Same F1 H1 → (items.length ≤ i → J.stop i H1) ∧
  (i < items.length → J.go i H1 ∧ ∀ x H2, J.yld i H1 x H2 → ∃ F2 d, Grow F1 H1 F2 H2 ∧ items[i]? = some d ∧ Rep T F2 d x)
def EvI (T : Tb) (W : WX) (f : FA) : TI := fun σ H R => ∃ F0 B0 A F ε, RelE T F0 B0 A F H σ ε ∧ Post T W F0 B0 A F σ (f ε) fun items _ F' H' => ∀ J, IterS T J F' items → R J H'
abbrev SI (X : Cx) (T : Tb) (W : WX) (tg e : Expr) (f : FA) : Prop := PI X tg e (EvI T W f)
theorem iter_list {K : PySem.W.Frag} {F : Hp} {a : Addr} {xs : List D} {vs : List V} (h : F a = some (.lst vs)) (r : Reps T F xs vs) : IterS T (Itl K a) F xs := fun i F1 H1 s1 s2 => by
  have h1 := s2 _ _ (s1 _ _ h)
  refine ⟨fun hl => ⟨vs, SqL.of h1, by rw [← r.length]; exact hl⟩, fun hl => ?_⟩
  have hl2 : i < vs.length := by rw [← r.length]; exact hl
  refine ⟨⟨vs, vs[i], SqL.of h1, by simp [hl2]⟩, fun x H2 y => ?_⟩
  obtain ⟨rfl, y⟩ := y
  obtain ⟨d, e1, r1⟩ := r.get' (y vs (SqL.of h1))
  exact ⟨F1, d, Grow.refl s2, e1, r1.mono s1⟩
theorem iter_tup {K : PySem.W.Frag} {F : Hp} {a : Addr} {xs : List D} {vs : List V} (h : F a = some (.tup vs)) (r : Reps T F xs vs) : IterS T (Itt K a) F xs := fun i F1 H1 s1 s2 => by
  have h1 := s2 _ _ (s1 _ _ h)
  refine ⟨fun hl => ⟨vs, SqT.of h1, by rw [← r.length]; exact hl⟩, fun hl => ?_⟩
  have hl2 : i < vs.length := by rw [← r.length]; exact hl
  refine ⟨⟨vs, vs[i], SqT.of h1, by simp [hl2]⟩, fun x H2 y => ?_⟩
  obtain ⟨rfl, y⟩ := y
  obtain ⟨d, e1, r1⟩ := r.get' (y vs (SqT.of h1))
  exact ⟨F1, d, Grow.refl s2, e1, r1.mono s1⟩
theorem iter_scr {K : PySem.W.Frag} {F : Hp} {a : Addr} {ns : List Int} (h : SqL K F a (ns.map V.int)) : IterS T (Itl K a) F (ns.map D.int) := fun i F1 H1 s1 s2 => by
  have h1 : SqL K H1 a (ns.map V.int) := s2.seq (s1.seq h)
  refine ⟨fun hl => ⟨_, h1, by simpa using hl⟩, fun hl => ?_⟩
  have hl2 : i < (ns.map V.int).length := by simpa using hl
  refine ⟨⟨_, (ns.map V.int)[i], h1, by simp at hl2; simp [hl2]⟩, fun x H2 y => ?_⟩
  obtain ⟨rfl, y⟩ := y
  obtain ⟨d, e1, r1⟩ := (Reps.ints (T := T) (F := F1) (ns := ns)).get' (y _ h1)
  exact ⟨F1, d, Grow.refl s2, e1, r1⟩
theorem rngL_length : ∀ (n : Nat) (lo : Int), (rngL lo n).length = n
  | 0, lo => rfl
  | n + 1, lo => by simp [rngL, rngL_length n]
theorem rngL_get : ∀ (n : Nat) (lo : Int) (i : Nat), i < n → (rngL lo n)[i]? = some (.int (lo + i))
  | 0, lo, i, h => by omega
  | n + 1, lo, 0, h => by simp [rngL]
  | n + 1, lo, i + 1, h => by
    simp only [rngL, List.getElem?_cons_succ]
    rw [rngL_get n (lo + 1) i (by omega)]
    congr 2
    omega
theorem iter_rng {F : Hp} {lo : Int} {n : Nat} : IterS T (Itr lo n) F (rngL lo n) := fun i F1 H1 s1 s2 => by
  rw [rngL_length]
  refine ⟨fun hl => hl, fun hl => ⟨hl, fun x H2 y => ?_⟩⟩
  obtain ⟨rfl, rfl⟩ := y
  exact ⟨F1, _, Grow.refl s2, rngL_get n lo i hl, by simp only [Rep]⟩
theorem PI.or {tg e : Expr} {t t' : TI} (h : PI X tg e t) (h' : PI X tg e t') : PI X tg e fun σ H R => t σ H R ∨ t' σ H R := ⟨fun pins s σ H R I x => x.elim (h.run pins s σ H R I) (h'.run pins s σ H R I)⟩
end
end EV
set_option maxRecDepth 100000
/-! EvW: loops and comprehensions. -/
namespace EV
open PySem L2
section
variable {X : Cx} {T : Tb} {W : WX} {pos : Pos} {a b e tg : Expr} {fa fb fe : FE} {st : Stmt} {sts : List Stmt} {g1 g2 body : FS}
theorem sI_seq (hK : T.K = X.K) (h : SE X T W e fa) : SI X T W tg e (iSeq fa) := impI (PI.or (pi_list h) (pi_tup h)) fun σ H R ⟨F0, B0, A, F, ε, rel, p⟩ => by
  have pb := post_bind p
  cases hfa : fa ε with
  | bot => rw [hfa] at pb; exact pb.elim
  | ex c fs ε' => rw [hfa] at pb; exact .inl ⟨F0, B0, A, F, ε, rel, by rw [hfa]; exact pb⟩
  | ok x ε1 =>
    rw [hfa] at pb
    cases x with
    | lst xs =>
      refine .inl ⟨F0, B0, A, F, ε, rel, ?_⟩
      rw [hfa]
      intro F1 H1 s1 rel1 v rv
      simp only [Rep] at rv
      obtain ⟨a, vs, rfl, h1, h2⟩ := rv
      exact ⟨a, rfl, ⟨vs, SqL.of (rel1.fh _ _ h1)⟩, pb F1 H1 s1 rel1 F1 H1 (.refl _) rel1 _ (iter_list h1 h2)⟩
    | tup xs =>
      refine .inr ⟨F0, B0, A, F, ε, rel, ?_⟩
      rw [hfa]
      intro F1 H1 s1 rel1 v rv
      simp only [Rep] at rv
      obtain ⟨a, vs, rfl, h1, h2⟩ := rv
      exact ⟨a, rfl, ⟨vs, SqT.of (rel1.fh _ _ h1)⟩, pb F1 H1 s1 rel1 F1 H1 (.refl _) rel1 _ (iter_tup h1 h2)⟩
    | scr ns =>
      refine .inl ⟨F0, B0, A, F, ε, rel, ?_⟩
      rw [hfa]
      intro F1 H1 s1 rel1 v rv
      simp only [Rep] at rv
      obtain ⟨a, rfl, h1⟩ := rv
      rw [hK] at h1
      exact ⟨a, rfl, ⟨_, rel1.fh.seq h1⟩, pb F1 H1 s1 rel1 F1 H1 (.refl _) rel1 _ (iter_scr h1)⟩
    | _ =>
      refine .inl ⟨F0, B0, A, F, ε, rel, ?_⟩
      rw [hfa]
      exact fun F1 H1 s1 rel1 v rv => (pb F1 H1 s1 rel1).elim
theorem small_iff {i : Int} (h : small i = true) : -(2 ^ 62) ≤ i ∧ i < 2 ^ 62 := by
  simpa only [small, Bool.and_eq_true, decide_eq_true_eq] using h
theorem sI_rng1 {fr : FA} (h : PI X tg e (L2.iRng1 (EvA T W fr))) : SI X T W tg e (EV.iRng1 fr) := impI h fun σ H R ⟨F0, B0, A, F, ε, rel, p⟩ => ⟨F0, B0, A, F, ε, rel, (post_bind p).imp fun xs ε1 F1 H1 s1 rel1 p1 vs rvs => by
  split at p1
  · rename_i j
    obtain ⟨w, us, rfl, rw, r2⟩ := reps_cons.mp rvs
    cases reps_nil.mp r2
    simp only [Rep] at rw
    subst rw
    split at p1
    · rename_i hs
      exact ⟨j, rfl, (small_iff hs).1, (small_iff hs).2, p1 F1 H1 (.refl _) rel1 _ iter_rng⟩
    · exact p1.elim
  · exact p1.elim⟩
theorem sI_rng2 {fr : FA} (h : PI X tg e (L2.iRng2 (EvA T W fr))) : SI X T W tg e (EV.iRng2 fr) := impI h fun σ H R ⟨F0, B0, A, F, ε, rel, p⟩ => ⟨F0, B0, A, F, ε, rel, (post_bind p).imp fun xs ε1 F1 H1 s1 rel1 p1 vs rvs => by
  split at p1
  · rename_i i j
    obtain ⟨w, us, rfl, rw, r2⟩ := reps_cons.mp rvs
    obtain ⟨w2, us2, rfl, rw2, r3⟩ := reps_cons.mp r2
    cases reps_nil.mp r3
    simp only [Rep] at rw rw2
    subst rw rw2
    split at p1
    · rename_i hs
      exact ⟨i, j, rfl, ⟨(small_iff hs.1).1, (small_iff hs.1).2, (small_iff hs.2).1, (small_iff hs.2).2⟩, p1 F1 H1 (.refl _) rel1 _ iter_rng⟩
    · exact p1.elim
  · exact p1.elim⟩
theorem pairL_length : ∀ (xs : List D) (n : Nat), (pairL n xs).length = xs.length
  | [], n => rfl
  | x :: xs, n => by simp [pairL, pairL_length xs]
theorem pairL_get : ∀ (xs : List D) (n i : Nat) (d : D), xs[i]? = some d → (pairL n xs)[i]? = some (.tup [.int ((n + i : Nat) : Int), d])
  | [], n, i, d, h => by simp at h
  | x :: xs, n, 0, d, h => by simp at h; subst h; simp [pairL]
  | x :: xs, n, i + 1, d, h => by
    simp only [List.getElem?_cons_succ] at h
    simp only [pairL, List.getElem?_cons_succ]
    rw [pairL_get xs (n + 1) i d h, show n + 1 + i = n + (i + 1) by omega]
theorem iter_enum {K : PySem.W.Frag} {F : Hp} {a : Addr} {xs : List D} {vs : List V} (h : F a = some (.lst vs)) (r : Reps T F xs vs) : IterS T (Ite K a) F (pairL 0 xs) := fun i F1 H1 s1 s2 => by
  have h1 := s2 _ _ (s1 _ _ h)
  rw [pairL_length]
  refine ⟨fun hl => ⟨vs, SqL.of h1, by rw [← r.length]; exact hl⟩, fun hl => ?_⟩
  have hl2 : i < vs.length := by rw [← r.length]; exact hl
  refine ⟨⟨vs, vs[i], SqL.of h1, by simp [hl2]⟩, fun x H2 y => ?_⟩
  obtain ⟨q, u, rfl, hq, rfl, y⟩ := y
  obtain ⟨d, e1, r1⟩ := r.get' (y vs (SqL.of h1))
  refine ⟨_, _, Grow.new (o := .tup [.int (i : Nat), u]) s2 hq, pairL_get xs 0 i d e1, ?_⟩
  simp only [Rep]
  refine ⟨q, _, rfl, upd_same, .cons (by simp only [Rep, Nat.zero_add]) (.cons (r1.mono (s1.trans (Same.new (s2.free hq)))) .nil)⟩
theorem sI_enum {fa : FE} (h : PI X tg e (L2.iEnum X.K (EvA T W (aCons fa aNil)))) : SI X T W tg e (EV.iEnum fa) := impI h fun σ H R ⟨F0, B0, A, F, ε, rel, p⟩ => ⟨F0, B0, A, F, ε, rel, by
  have pb := post_bind p
  unfold aCons aNil
  cases hfa : fa ε with
  | bot => rw [hfa] at pb; exact pb.elim
  | ex c fs ε' => rw [hfa] at pb; exact pb
  | ok x ε1 =>
    rw [hfa] at pb
    intro F1 H1 s1 rel1 vs rvs
    obtain ⟨w, us, rfl, rw, r2⟩ := reps_cons.mp rvs
    cases reps_nil.mp r2
    have p1 := pb F1 H1 s1 rel1
    cases x with
    | lst xs =>
      simp only [Rep] at rw
      obtain ⟨a, vs, rfl, h1, h2⟩ := rw
      exact ⟨a, vs, rfl, SqL.of (rel1.fh _ _ h1), p1 F1 H1 (.refl _) rel1 _ (iter_enum h1 h2)⟩
    | _ => exact p1.elim⟩
/-! ### for, while -/
theorem post_loop {F0 B0 F : Hp} {A : List Addr} {m : R Fl} {k : Env → R Fl} {Dn : Ends} {N : L2.St → Hp → Prop}
    (p : PostS T W F0 B0 A F (m.bind fun fl ε2 => match fl with
      | .nx => k ε2
      | .ct => k ε2
      | .br => .ok .nx ε2
      | fl => .ok fl ε2) Dn)
    (hN : ∀ ε2 σ' F' H', Same F F' → RelE T F0 B0 A F' H' σ' ε2 → PostS T W F0 B0 A F' (k ε2) Dn → N σ' H') :
    PostS T W F0 B0 A F m { Dn with nx := N, ct := N, bk := Dn.nx } := by
  cases m with
  | bot => exact p
  | ex c fs ε' => exact p
  | ok fl ε' =>
    cases fl with
    | nx => exact fun σ' F' H' s rel => hN ε' σ' F' H' s rel (PostS.monoF s p)
    | ct => exact fun σ' F' H' s rel => hN ε' σ' F' H' s rel (PostS.monoF s p)
    | br => exact p
    | rt d => exact p
    | ro o => exact p
theorem sS_for {iter : Expr} {fi : FA} {h : FG} {g : TG} {ws : List Nat} {sts : List Stmt} (hp : PassesOwn (model X.prog X.w) X.A X.env X.xe) (hc : X.calm = true) (hi : SI X T W tg iter fi) (hg : PG X tg g) (gs : GS T g h ws) (hb : SSs X T W sts body)
    (hs : ∀ x, foldedSetIterable iter X.env x = pure x := by intro _; rfl) : SS X T W (.For tg iter sts [] pos) (EV.forS fi h body) := impS (ps_for hp hc hi hg hb hs) fun Dn σ H ⟨F0, B0, A, F, ε, rel, p⟩ =>
  ⟨F0, B0, A, F, ε, rel, (postS_bind p).imp fun items ε1 F1 H1 s1 rel1 p1 J hJ => by
    refine ⟨fun i m σ2 H2 => ∃ F2 ε2, Same F1 F2 ∧ RelE T F0 B0 A F2 H2 σ2 ε2 ∧ i ≤ items.length ∧ m = items.length - i ∧ PostS T W F0 B0 A F2 (forL h body (items.drop i) ε2) Dn, ⟨items.length, F1, ε1, .refl _, rel1, Nat.zero_le _, rfl, p1⟩, ?_⟩
    rintro i m σ2 H2 ⟨F2, ε2, s2, rel2, hi, rfl, p2⟩
    obtain ⟨stop, go⟩ := hJ i F2 H2 s2 rel2.fh
    by_cases hlt : i < items.length
    · obtain ⟨g0, yl⟩ := go hlt
      refine .inr ⟨g0, fun σ3 H3 => ∃ F3 ε3, Same F1 F3 ∧ RelE T F0 B0 A F3 H3 σ3 ε3 ∧ i + 1 ≤ items.length ∧ PostS T W F0 B0 A F3 (forL h body (items.drop (i + 1)) ε3) Dn, fun σ' H' ⟨F3, ε3, s3, rel3, hi3, p3⟩ => ⟨items.length - (i + 1), by omega, F3, ε3, s3, rel3, hi3, rfl, p3⟩, fun x H3 y => ?_⟩
      obtain ⟨F3, d, gr, ed, rd⟩ := yl x H3 y
      have ed' : items.drop i = d :: items.drop (i + 1) := by
        rw [List.drop_eq_getElem_cons hlt]
        rw [List.getElem?_eq_getElem hlt] at ed
        rw [Option.some.inj ed]
      rw [ed'] at p2
      unfold forL at p2
      obtain ⟨ε3, e3, p3⟩ := postS_of p2
      refine gs F0 B0 A F3 H3 σ2 ε2 d x ε3 _ (rel2.grow gr) rd e3 fun σ' rel' _ => ⟨F0, B0, A, F3, ε3, rel', ?_⟩
      exact post_loop (PostS.monoF gr.ff p3) fun ε4 σ4 F4 H4 s4 rel4 p4 => ⟨F4, ε4, (s2.trans gr.ff).trans s4, rel4, hlt, p4⟩
    · have e : i = items.length := by omega
      subst e
      rw [List.drop_length] at p2
      exact .inl ⟨stop (Nat.le_refl _), p2 σ2 F2 H2 (.refl _) rel2⟩⟩
theorem sS_while {c : Expr} {t : FT} {sts : List Stmt} {n : Nat} (hp : PassesOwn (model X.prog X.w) X.A X.env X.xe) (hc : ST X T W c t) (hb : SSs X T W sts body) : SS X T W (.While c sts [] pos) (EV.whl t body n) := impS (ps_while hp hc hb) fun Dn σ H ⟨F0, B0, A, F, ε, rel, p⟩ => by
  refine ⟨fun m σ2 H2 => ∃ F2 ε2, RelE T F0 B0 A F2 H2 σ2 ε2 ∧ PostS T W F0 B0 A F2 (EV.whl t body m ε2) Dn, ⟨n, F, ε, rel, p⟩, ?_⟩
  rintro m σ2 H2 ⟨F2, ε2, rel2, p2⟩
  cases m with
  | zero => exact p2.elim
  | succ m =>
    unfold EV.whl at p2
    refine ⟨F0, B0, A, F2, ε2, rel2, (postS_bind p2).imp fun c ε3 F3 H3 s3 rel3 p3 => ?_⟩
    cases c with
    | true =>
      refine iteT ⟨fun σ4 H4 => ∃ F4 ε4, RelE T F0 B0 A F4 H4 σ4 ε4 ∧ PostS T W F0 B0 A F4 (EV.whl t body m ε4) Dn, fun σ' H' q => ⟨m, Nat.lt_succ_self _, q⟩, F0, B0, A, F3, ε3, rel3, ?_⟩
      rw [if_pos rfl] at p3
      exact post_loop p3 fun ε4 σ4 F4 H4 s4 rel4 p4 => ⟨F4, ε4, rel4, p4⟩
    | false =>
      refine iteF ?_
      rw [if_neg Bool.false_ne_true] at p3
      exact p3 σ2 F3 H3 (.refl _) rel3
end
end EV
set_option maxRecDepth 100000
/-! EvC: list comprehensions. -/
namespace EV
open PySem L2
/-- a wish about exceptions that does not hang on the slots; none at all -/
def WK (E : XK) : WX := fun c d _ H => E c d H
abbrev W0 : WX := WK fun _ _ _ => False
section
variable {T : Tb} {W : WX} {F0 B0 F F' H H' : Hp} {A : List Addr} {σ : L2.St} {ε : Env} {q : Addr} {o : HO}
theorem RelE.guard (r : RelE T F0 B0 A F H σ ε) (fq : F q = none) (bq : B0 q = none) (hq : H q = some o) (no : ∀ i, ¬ OwnA ε σ i q) : RelE T F0 (upd B0 q o) A F H σ ε where
  f0 := r.f0
  fh := r.fh
  bh := fun p u h => by
    by_cases e : p = q
    · subst e
      rw [upd_same] at h
      cases h
      exact hq
    · rw [upd_ne e] at h
      exact r.bh p u h
  fr := fun p h => by
    by_cases e : p = q
    · subst e
      exact absurd fq h
    · rw [upd_ne e]
      exact r.fr p h
  len := r.len
  sl := fun j s ej => by
    have z := r.sl j s ej
    cases s with
    | no => trivial
    | sh d => exact z
    | ow k1 o1 =>
      obtain ⟨b, hb, e2, fb, bb, kb, hhb, rb⟩ := z
      refine ⟨b, hb, e2, fb, ?_, kb, hhb, rb⟩
      rw [upd_ne]
      · exact bb
      · rintro rfl
        exact no j ⟨⟨_, _, ej⟩, e2⟩
  nd := r.nd
theorem RelE.unguard (r : RelE T F0 (upd B0 q o) A F H σ ε) (bq : B0 q = none) (fq : F0 q = none) : RelE T F0 B0 A F H σ ε ∧ F q = none ∧ H q = some o ∧ ∀ i, ¬ OwnA ε σ i q := by
  have ne : ∀ p, upd B0 q o p = none → p ≠ q := fun p h z => by subst z; rw [upd_same] at h; cases h
  refine ⟨⟨r.f0, r.fh, fun p u h => ?_, fun p h => ?_, r.len, fun j s ej => ?_, r.nd⟩, ?_, r.bh q o upd_same, fun i hi => ?_⟩
  · by_cases e : p = q
    · subst e
      rw [bq] at h
      cases h
    · exact r.bh p u (by rw [upd_ne e]; exact h)
  · rcases r.fr p h with z | z
    · exact .inl z
    · refine .inr ?_
      rw [upd_ne (ne p z)] at z
      exact z
  · have z := r.sl j s ej
    cases s with
    | no => trivial
    | sh d => exact z
    | ow k1 o1 =>
      obtain ⟨b, hb, e2, fb, bb, kb, hhb, rb⟩ := z
      refine ⟨b, hb, e2, fb, ?_, kb, hhb, rb⟩
      rw [upd_ne (ne b bb)] at bb
      exact bb
  · cases z : F q with
    | none => rfl
    | some u =>
      rcases r.fr q (by rw [z]; simp) with y | y
      · exact absurd fq y
      · rw [upd_same] at y; cases y
  · obtain ⟨⟨k, o1, h1⟩, h2⟩ := hi
    obtain ⟨b, hb, e2, fb, bb, _⟩ := r.sl i _ h1
    rw [h2] at e2
    cases e2
    exact ne q bb rfl
theorem RelE.chg (r : RelE T F0 B0 A F H σ ε) (fq : F q = none) (bq : B0 q = none) (no : ∀ i, ¬ OwnA ε σ i q) : RelE T F0 B0 A F (upd H q o) σ ε where
  f0 := r.f0
  fh := fun p u h => by
    rw [upd_ne (ne_of_none h fq)]
    exact r.fh p u h
  bh := fun p u h => by
    rw [upd_ne (ne_of_none h bq)]
    exact r.bh p u h
  fr := r.fr
  len := r.len
  sl := fun j s ej => by
    have z := r.sl j s ej
    cases s with
    | no => trivial
    | sh d => exact z
    | ow k1 o1 =>
      obtain ⟨b, hb, e2, fb, bb, kb, hhb, rb⟩ := z
      refine ⟨b, hb, e2, fb, bb, kb, ?_, rb⟩
      rw [upd_ne]
      · exact hhb
      · rintro rfl
        exact no j ⟨⟨_, _, ej⟩, e2⟩
  nd := r.nd
theorem RelE.wipe (r : RelE T F0 B0 A F H σ ε) : ∀ vs : List Nat, RelE T F0 B0 A F H (L2.wipe σ vs) (wipeE ε vs)
  | [] => r
  | v :: vs => (r.wipe vs).setNo
theorem wipeE_get : ∀ {vs : List Nat} {ε : Env} {j : Nat}, (wipeE ε vs)[j]? = if j ∈ vs then (if j < ε.length then some .no else none) else ε[j]?
  | [], ε, j => by simp [wipeE]
  | v :: vs, ε, j => by
    have wl : ∀ vs : List Nat, (wipeE ε vs).length = ε.length := fun vs => by
      induction vs with
      | nil => rfl
      | cons v vs ih => unfold wipeE; rw [List.length_set, ih]
    unfold wipeE
    by_cases e : j = v
    · subst e
      by_cases hl : j < ε.length
      · rw [List.getElem?_set_self (by rw [wl]; exact hl)]
        simp [hl]
      · rw [List.getElem?_eq_none (by rw [List.length_set, wl]; omega)]
        simp [hl]
    · rw [List.getElem?_set_ne (Ne.symm e), wipeE_get]
      simp [e]
theorem ownA_wipe {vs : List Nat} {i : Nat} {a : Addr} (h : OwnA (wipeE ε vs) (L2.wipe σ vs) i a) : OwnA ε σ i a := by
  obtain ⟨⟨k, o, h1⟩, h2⟩ := h
  rw [wipeE_get] at h1
  rw [wipe_get] at h2
  by_cases e : i ∈ vs
  · rw [if_pos e] at h1
    split at h1 <;> cases h1
  · rw [if_neg e] at h1 h2
    exact ⟨⟨k, o, h1⟩, h2⟩
theorem backE_len {ε0 ε : Env} : ∀ vs : List Nat, (backE ε0 ε vs).length = ε.length
  | [] => rfl
  | v :: vs => by unfold backE; rw [List.length_set, backE_len vs]
theorem backE_get {ε0 ε : Env} {j : Nat} {s : Slot} : ∀ {vs : List Nat}, (backE ε0 ε vs)[j]? = some s → (j ∈ vs ∧ (s = .no ∨ ∃ d, s = .sh d ∧ ε0[j]? = some (.sh d))) ∨ (j ∉ vs ∧ ε[j]? = some s)
  | [], h => .inr ⟨by simp, h⟩
  | v :: vs, h => by
    unfold backE at h
    by_cases e : j = v
    · subst e
      have hl : j < _ := lt_of_get h
      rw [List.length_set] at hl
      rw [List.getElem?_set_self hl] at h
      have h := Option.some.inj h
      refine .inl ⟨by simp, ?_⟩
      split at h
      · rename_i d hd
        exact .inr ⟨d, h.symm, hd⟩
      · exact .inl h.symm
    · rw [List.getElem?_set_ne (Ne.symm e)] at h
      rcases backE_get h with ⟨z, y⟩ | ⟨z, y⟩
      · exact .inl ⟨List.mem_cons_of_mem _ z, y⟩
      · exact .inr ⟨by simp [e, z], y⟩
theorem RelE.back {ε0 : Env} {F1 H1 : Hp} {vs : List Nat} (r0 : RelE T F0 B0 A F1 H1 σ ε0) (s : Same F1 F) (r : RelE T F0 B0 A F H (L2.wipe σ vs) ε) : RelE T F0 B0 A F H σ (backE ε0 ε vs) where
  f0 := r.f0
  fh := r.fh
  bh := r.bh
  fr := r.fr
  len := by rw [backE_len, r.len, wipe_length]
  sl := fun j sl ej => by
    rcases backE_get ej with ⟨_, rfl | ⟨d, rfl, e0⟩⟩ | ⟨z, y⟩
    · trivial
    · obtain ⟨u, e1, e2⟩ := r0.sl j _ e0
      exact ⟨u, e1, e2.mono s⟩
    · have q := r.sl j sl y
      rw [wipe_get, if_neg z] at q
      exact q
  nd := fun i j a h1 h2 => by
    have go : ∀ {i}, OwnA (backE ε0 ε vs) σ i a → OwnA ε (L2.wipe σ vs) i a := by
      rintro i ⟨⟨k, o, g1⟩, g2⟩
      rcases backE_get g1 with ⟨_, z | ⟨d, z, _⟩⟩ | ⟨z, y⟩
      · cases z
      · cases z
      · refine ⟨⟨k, o, y⟩, ?_⟩
        rw [wipe_get, if_neg z]
        exact g2
    exact r.nd i j a (go h1) (go h2)
theorem ownA_back {ε0 : Env} {vs : List Nat} {i : Nat} {a : Addr} (h : OwnA (backE ε0 ε vs) σ i a) : OwnA ε (L2.wipe σ vs) i a := by
  obtain ⟨⟨k, o, g1⟩, g2⟩ := h
  rcases backE_get g1 with ⟨_, z | ⟨d, z, _⟩⟩ | ⟨z, y⟩
  · cases z
  · cases z
  · refine ⟨⟨k, o, y⟩, ?_⟩
    rw [wipe_get, if_neg z]
    exact g2
theorem bindB_ok {α β : Type} {m : R α} {k : α → Env → R β} {b : β} {ε' : Env} (h : m.bindB k = .ok b ε') : ∃ a ε1, m = .ok a ε1 ∧ k a ε1 = .ok b ε' := by
  cases m with
  | ok a e => exact ⟨a, e, rfl, h⟩
  | bot => cases h
  | ex c fs e => cases h
theorem of_ok {α β : Type} {o : Option α} {k : α → R β} {b : β} {ε' : Env} (h : R.of o k = .ok b ε') : ∃ a, o = some a ∧ k a = .ok b ε' := by
  cases o with
  | none => cases h
  | some a => exact ⟨a, rfl, h⟩
end
section
variable {X : Cx} {T : Tb} {W : WX} {pos : Pos} {e tg : Expr} {fe : FE}
/-- the reading of a comprehension -/
theorem lc_ev {σ : L2.St} {H : Hp} {Q : VK} {fi : FA} {h : FG} {g : TG} {ftt : FT} {ws own : List Nat} (gs : GS T g h ws) (hw : ∀ j ∈ ws, j ∈ own) (ev : EvO T W (EV.lc own fi h ftt fe) σ H Q) :
    tLc (EvI T W fi) g (EvT T W0 ftt) (EvP T W0 fe) own σ H Q := by
  obtain ⟨F0, B0, A, F, ε, rel, p⟩ := ev
  refine ⟨F0, B0, A, F, ε, rel, (post_bind p).imp fun items ε1 F1 H1 s1 rel1 p1 J hJ => fun Dd hD => ?_⟩
  split at p1
  rotate_left
  · exact p1.elim
  rename_i hline
  obtain ⟨rel1', f1D, b0D, noD⟩ := rel1.newOwn (ho := .lst []) hD
  cases hall : (lcL own h ftt fe items (wipeE ε1 own)) with
  | bot => rw [hall] at p1; exact p1.elim
  | ex c fs e => rw [hall] at p1; exact p1.elim
  | ok ysAll εE =>
    rw [hall] at p1
    refine ⟨fun i m H2 => ∃ F2 ε2 ds vs, Same F1 F2 ∧ RelE T F0 B0 A F2 H2 (L2.wipe σ own) ε2 ∧ F2 Dd = none ∧ H2 Dd = some (.lst vs) ∧ Reps T F2 ds vs ∧ (∀ j, ¬ OwnA ε2 (L2.wipe σ own) j Dd) ∧ i ≤ items.length ∧ m = items.length - i ∧ ds.length ≤ i ∧
      ∃ ys, lcL own h ftt fe (items.drop i) ε2 = .ok ys εE ∧ ds ++ ys = ysAll,
      ⟨items.length, F1, wipeE ε1 own, [], [], .refl _, rel1'.wipe own, f1D, upd_same, .nil, fun j hj => noD j (ownA_wipe hj), Nat.zero_le _, rfl, Nat.le_refl _, ysAll, hall, rfl⟩, ?_⟩
    rintro i m H2 ⟨F2, ε2, ds, vs, s2, rel2, f2D, h2D, rds, no2, hi, rfl, hdl, ys, hys, hcat⟩
    obtain ⟨stop, go⟩ := hJ i F2 H2 s2 rel2.fh
    by_cases hlt : i < items.length
    · obtain ⟨g0, yl⟩ := go hlt
      refine .inr ⟨g0, fun H3 => ∃ F2 ε2 ds vs, Same F1 F2 ∧ RelE T F0 B0 A F2 H3 (L2.wipe σ own) ε2 ∧ F2 Dd = none ∧ H3 Dd = some (.lst vs) ∧ Reps T F2 ds vs ∧ (∀ j, ¬ OwnA ε2 (L2.wipe σ own) j Dd) ∧ i + 1 ≤ items.length ∧ ds.length ≤ i + 1 ∧
        ∃ ys, lcL own h ftt fe (items.drop (i + 1)) ε2 = .ok ys εE ∧ ds ++ ys = ysAll, ?_, ?_⟩
      · rintro H3 ⟨F3, ε3, ds3, vs3, a1, a2, a3, a4, a5, a6, a7, a8, a9⟩
        exact ⟨items.length - (i + 1), by omega, F3, ε3, ds3, vs3, a1, a2, a3, a4, a5, a6, a7, rfl, a8, a9⟩
      · intro x H3 y
        obtain ⟨F3, d, gr, ed, rd⟩ := yl x H3 y
        have ed' : items.drop i = d :: items.drop (i + 1) := by
          rw [List.drop_eq_getElem_cons hlt]
          rw [List.getElem?_eq_getElem hlt] at ed
          rw [Option.some.inj ed]
        rw [ed'] at hys
        unfold lcL at hys
        obtain ⟨ε3, e3, hys⟩ := of_ok hys
        obtain ⟨b, ε4, e4, hys⟩ := bindB_ok hys
        have f3D : F3 Dd = none := by
          cases z : F3 Dd with
          | none => rfl
          | some u =>
            rcases gr.nw Dd (by rw [z]; simp) with y | y
            · exact absurd f2D y
            · rw [h2D] at y; cases y
        have rel3 := (rel2.grow gr).guard f3D b0D (gr.hh _ _ h2D) no2
        have f0D : F0 Dd = none := rel2.f0.free f2D
        refine gs F0 _ A F3 H3 _ ε2 d x ε3 _ rel3 rd e3 fun σ' rel' hwipe => ?_
        have hwp : L2.wipe σ' own = L2.wipe σ own := by
          rw [hwipe own hw]
          apply List.ext_getElem?
          intro j
          rw [wipe_get, wipe_get]
          by_cases e : j ∈ own
          · simp only [e, if_true, wipe_length]
          · simp only [e, if_false]
        refine ⟨hwp, F0, _, A, F3, ε3, rel', ?_⟩
        rw [e4]
        intro F4 H4 s4 rel4
        cases b with
        | true =>
          refine iteT ⟨F0, _, A, F4, ε4, rel4, ?_⟩
          rw [if_pos rfl] at hys
          obtain ⟨y', ε5, e5, hys⟩ := bindB_ok hys
          obtain ⟨ys', ε6, e6, hys⟩ := bindB_ok hys
          rw [e5]
          intro F5 H5 s5 rel5 v rv
          obtain ⟨rel5', f5D, h5D, no5⟩ := rel5.unguard b0D f0D
          have e7 : ε6 = εE ∧ y' :: ys' = ys := by
            cases hys
            exact ⟨rfl, rfl⟩
          have sAll : Same F2 F5 := (gr.ff.trans s4).trans s5
          have hlen : vs.length = ds.length := rds.length.symm
          refine ⟨vs, h5D, line_lt (by omega), F5, wipeE ε5 own, ds ++ [y'], vs ++ [v], s2.trans sAll, ?_, f5D, upd_same, Reps.append (rds.mono sAll) (.cons rv .nil), fun j hj => ?_, hlt, by simp; omega, ys', ?_, ?_⟩
          · rw [← hwp]
            exact (rel5'.chg f5D b0D no5).wipe own
          · rw [← hwp] at hj
            exact no5 j (ownA_wipe hj)
          · rw [e6, e7.1]
          · rw [← hcat, ← e7.2]
            simp
        | false =>
          refine iteF ?_
          rw [if_neg Bool.false_ne_true] at hys
          obtain ⟨rel5', f5D, h5D, no5⟩ := rel4.unguard b0D f0D
          have sAll : Same F2 F4 := gr.ff.trans s4
          refine ⟨F4, wipeE ε4 own, ds, vs, s2.trans sAll, ?_, f5D, h5D, rds.mono sAll, fun j hj => ?_, hlt, by omega, ys, hys, hcat⟩
          · rw [← hwp]
            exact rel5'.wipe own
          · rw [← hwp] at hj
            exact no5 j (ownA_wipe hj)
    · have e : i = items.length := by omega
      subst e
      rw [List.drop_length] at hys
      unfold lcL at hys
      cases hys
      rw [List.append_nil] at hcat
      subst hcat
      exact .inl ⟨stop (Nat.le_refl _), p1 F2 H2 s2 (rel1.back s2 rel2) Dd (.lst vs) f2D b0D h2D rds fun j hj => no2 j (ownA_back hj)⟩
theorem pts_yes {X : Cx} : PTs X [] (EvT T W0 EV.tYes) := ⟨fun pins s σ H Q I ⟨F0, B0, A, F, ε, rel, p⟩ => pts_nil.run pins s σ H Q I (p F H (.refl _) rel)⟩
theorem sO_lc {elt iter : Expr} {ifs : List Expr} {scope : Scope} {own : List (Str × Nat)} {fi : FA} {h : FG} {g : TG} {ftt : FT} {ws ix : List Nat} (hc : X.calm = true) (hN : X.N.Nodup) (hi : SI X T W tg iter fi) (ok : BlkOk X.N X.env.scope scope own)
    (hg : ∀ (s : Shared) (H : Hp) (C : Addr) (cl : List (Str × Addr)) (fp : List Addr), PG (X.blk s H scope (compEnvC scope cl C X.env) fp) tg g) (gs : GS T g h ws) (ht : ∀ (s : Shared) (H : Hp) (C : Addr) (cl : List (Str × Addr)) (fp : List Addr), PTs (X.blk s H scope (compEnvC scope cl C X.env) fp) ifs (EvT T W0 ftt))
    (he : ∀ (s : Shared) (H : Hp) (C : Addr) (cl : List (Str × Addr)) (fp : List Addr), SE (X.blk s H scope (compEnvC scope cl C X.env) fp) T W0 elt fe) (hix : own.map (·.2) = ix := by rfl) (hw : ∀ j ∈ ws, j ∈ ix := by decide) (hs : ∀ x, foldedSetIterable iter X.env x = pure x := by intro _; rfl) :
    SO X T W (.ListComp elt [⟨tg, iter, ifs, 0⟩] scope pos) (EV.lc ix fi h ftt fe) :=
  impE (pe_lc hc hN hi ok hg ht he hs) fun σ H Q ev => by
    subst hix
    exact lc_ev gs hw ev
theorem setLc {i : Nat} {y : Str} {py spos : Pos} {elt iter : Expr} {ifs : List Expr} {scope : Scope} {own : List (Str × Nat)} {fi : FA} {h : FG} {g : TG} {ftt : FT} {ws ix : List Nat} (hc : X.calm = true) (hN : X.N.Nodup) (hy : X.N[i]? = some y) (hyl : X.env.scope.names.lookup y = some .local)
    (hsw : swapsWith (.ListComp elt [⟨tg, iter, ifs, 0⟩] scope pos) (some (.Name y py)) spos.line X.env = pure true) (hi : SI X T W tg iter fi) (ok : BlkOk X.N X.env.scope scope own)
    (hg : ∀ (s : Shared) (H : Hp) (C : Addr) (cl : List (Str × Addr)) (fp : List Addr), PG (X.blk s H scope (compEnvC scope cl C X.env) fp) tg g) (gs : GS T g h ws) (ht : ∀ (s : Shared) (H : Hp) (C : Addr) (cl : List (Str × Addr)) (fp : List Addr), PTs (X.blk s H scope (compEnvC scope cl C X.env) fp) ifs (EvT T W0 ftt))
    (he : ∀ (s : Shared) (H : Hp) (C : Addr) (cl : List (Str × Addr)) (fp : List Addr), SE (X.blk s H scope (compEnvC scope cl C X.env) fp) T W0 elt fe) (hix : own.map (·.2) = ix := by rfl) (hw : ∀ j ∈ ws, j ∈ ix := by decide) (hs : ∀ x, foldedSetIterable iter X.env x = pure x := by intro _; rfl) :
    SS X T W (.Assign [.Name y py] (.ListComp elt [⟨tg, iter, ifs, 0⟩] scope pos) spos) (asgO i (EV.lc ix fi h ftt fe)) :=
  asgO_of (ps_setLc hc hN hy hyl hsw hi ok hg ht he hs) fun σ H Q ev => by
    subst hix
    exact lc_ev gs hw ev
end
end EV
set_option maxRecDepth 100000
/-! EvF: defs, their promises, their calls; instances made; exceptions raised. -/
namespace EV
open PySem L2
/-- the promise of a def: m of what is handed in -/
def spM (T : Tb) (np : Nat) (m : List D → FR) : Sp := fun vs H Q E => vs.length = np ∧ ∃ F ds, Same F H ∧ Reps T F ds vs ∧ (match m ds with
  | .bot => False
  | .ret d => ∀ v F' H', Grow F H F' H' → Rep T F' d v → Q v H'
  | .rto o => ∀ p ho F' H', Grow F H F' H' → F' p = none → H p = none → H' p = some ho → RepO T F' o ho → Q (.ref p) H'
  | .rse c fs => ∀ cls dx F' H', Grow F H F' H' → XRep T F' H' c fs cls dx → E cls dx H')
/-- nothing changed but what stands at a -/
structure GrowB (a : Addr) (F H F' H' : Hp) : Prop where
  ff : Same F F'
  fh : Same F' H'
  hh : ∀ p u, p ≠ a → H p = some u → H' p = some u
  nw : ∀ p, F' p ≠ none → F p ≠ none ∨ H p = none
  fa : F' a = none
structure GrowX (a : Addr) (F H F' H' : Hp) : Prop where
  ff : Same F F'
  fh : Same F' H'
  hh : ∀ p u, p ≠ a → H p = some u → H' p = some u
  nw : ∀ p, F' p ≠ none → F p ≠ none ∨ H p = none ∨ p = a
/-- the promise of a def that changes the object that it is handed first -/
def spQ (T : Tb) (np : Nat) (m : O → List D → FQ) : Sp := fun vs H Q E => vs.length = np ∧ ∃ F a us o ho ds, vs = .ref a :: us ∧ Same F H ∧ F a = none ∧ H a = some ho ∧ RepO T F o ho ∧ Reps T F ds us ∧ (match m o ds with
  | .bot => False
  | .ret d o' => ∀ v F' H' ho', GrowB a F H F' H' → H' a = some ho' → RepO T F' o' ho' → Rep T F' d v → Q v H'
  | .rse c fs => ∀ cls dx F' H', GrowX a F H F' H' → XRep T F' H' c fs cls dx → E cls dx H')
section
variable {T : Tb} {E : XK} {F H : Hp}
theorem get_start {n : Nat} {ds : List D} {vs : List V} {N : List Str} (hn : N.length = n) (r : Reps T F ds vs) (hl : vs.length ≤ n) : (start n ds).length = (L2.start N vs).length ∧ ∀ (i : Nat) (s : Slot), (start n ds)[i]? = some s → s = .no ∨ ∃ d v, s = .sh d ∧ (L2.start N vs)[i]? = some (some v) ∧ Rep T F d v := by
  have hd := r.length
  refine ⟨?_, fun i s e => ?_⟩
  · unfold start L2.start
    simp [hd, hn]
  · unfold start at e
    unfold L2.start
    by_cases h : i < ds.length
    · rw [List.getElem?_append_left (by simpa using h)] at e
      rw [List.getElem?_map, List.getElem?_eq_getElem h] at e
      have e := Option.some.inj e
      obtain ⟨v, e1, rv⟩ := r.get (List.getElem?_eq_getElem h)
      refine .inr ⟨_, v, e.symm, ?_, rv⟩
      rw [List.getElem?_append_left (by simp; omega), List.getElem?_map, e1]
      rfl
    · rw [List.getElem?_append_right (by simp; omega)] at e
      have z := List.mem_of_getElem? e
      exact .inl (List.eq_of_mem_replicate z)
theorem rel_start {n : Nat} {ds : List D} {vs : List V} {N : List Str} (hn : N.length = n) (s : Same F H) (r : Reps T F ds vs) (hl : vs.length ≤ n) : RelE T F H [] F H (L2.start N vs) (start n ds) := by
  obtain ⟨h1, h2⟩ := get_start hn r hl
  refine ⟨.refl _, s, .refl _, fun p h => .inl h, h1, fun i sl e => ?_, fun i j a h => ?_⟩
  · rcases h2 i sl e with rfl | ⟨d, v, rfl, e1, rv⟩
    · trivial
    · exact ⟨v, e1, rv⟩
  · obtain ⟨⟨k, o, g1⟩, g2⟩ := h
    rcases h2 i _ g1 with z | ⟨d, v, z, _⟩ <;> cases z
theorem grow_of {F' H' : Hp} {A : List Addr} {σ : L2.St} {ε : Env} (r : RelE T F H A F' H' σ ε) : Grow F H F' H' := ⟨r.f0, r.fh, r.bh, r.fr⟩
/-- the body at its end -/
theorem fn_end {np n : Nat} {g : FS} {ds : List D} {vs : List V} {N : List Str} {Q : VK} (hn : N.length = n) (h : spM T np (fn np n g) vs H Q E) (hle : np ≤ n) : EvS T (WK E) g { nx := fun _ H' => Q .non H', rt := Q } (L2.start N vs) H := by
  obtain ⟨hl, F, ds, s, r, h⟩ := h
  refine ⟨F, H, [], F, start n ds, rel_start hn s r (by omega), ?_⟩
  unfold fn at h
  rw [if_pos (by rw [r.length]; exact hl)] at h
  cases hg : g (start n ds) with
  | bot => rw [hg] at h; exact h
  | ex c fs ε => rw [hg] at h; exact fun σ' F' H' cls dx s' rel x => h cls dx F' H' (grow_of rel) x
  | ok fl ε =>
    rw [hg] at h
    cases fl with
    | nx => exact fun σ' F' H' s' rel => h .non F' H' (grow_of rel) (by simp only [Rep])
    | br => exact h.elim
    | ct => exact h.elim
    | rt d => exact fun σ' F' H' s' rel v rv => h v F' H' (grow_of rel) rv
    | ro o => exact fun σ' F' H' s' rel p ho h1 h2 h3 h4 h5 => h p ho F' H' (grow_of rel) h1 h2 h3 h4
end
section
variable {P : Program} {w : World} {K : PySem.W.Frag} {mg : Str → Option Value} {base : Heap} {T : Tb}
/-- a def of the text: where it stands, how it is called -/
structure Df (P : Program) (w : World) (K : PySem.W.Frag) (mg : Str → Option Value) (base : Heap) (T : Tb) (x : Str) (k : Nat) (ps : List Str) (m : List D → FR) : Prop where
  ex : ∃ (f : Addr) (fd : FuncData), mg x = some (.ref f) ∧ PySem.W.keepIn K (.ref f) = true ∧ FnOk P w K mg base (L2.CX P w) k f fd ps (spM T ps.length m) ∧ Binds K fd ps []
/-- .. that changes its first argument -/
structure Dq (P : Program) (w : World) (K : PySem.W.Frag) (mg : Str → Option Value) (base : Heap) (T : Tb) (x : Str) (k : Nat) (ps : List Str) (m : O → List D → FQ) : Prop where
  ex : ∃ (f : Addr) (fd : FuncData), mg x = some (.ref f) ∧ PySem.W.keepIn K (.ref f) = true ∧ FnOk P w K mg base (L2.CX P w) k f fd ps (spQ T ps.length m) ∧ Binds K fd ps []
theorem fn_ok {x qual : Str} {st : Stmt} {f : Addr} {fd : FuncData} {N ps : List Str} {k n : Nat} {g : FS} (F : Fun K x qual st f fd) (S : FnScope N ps (defScope st)) (hn : N.length = n) (hle : ps.length ≤ n)
    (hb : ∀ (cdv : Value) (A : Around) (outer : List PySem.Env) (s : Shared) (H : Hp) (E : XK), Room k (A.deeper (PyProof.Rows.envOfC qual (defScope st) s.heap.objs.size f cdv)) → SSs (cxOf (L2.CX P w) P w K mg base N qual (defScope st) f cdv A outer s H E) T (WK E) (defBody st) g) :
    FnOk P w K mg base (L2.CX P w) (k + 1) f fd ps (spM T ps.length (fn ps.length n g)) :=
  F.okX S (fun vs H Q E h => h.1) fun cdv A outer s H vs Q E hr h => ⟨_, hb cdv A outer s H E hr, fn_end (ds := []) hn h hle⟩
end
section
variable {X : Cx} {T : Tb} {W : WX} {pos p : Pos} {e : Expr} {es : List Expr} {x : Str} {k : Nat} {ps : List Str} {fr : FA}
theorem relE_call {F0 B0 F H F' H' : Hp} {A : List Addr} {σ : L2.St} {ε : Env} (r : RelE T F0 B0 A F H σ ε) (g : Grow F H F' H') : RelE T F0 B0 A F' H' σ ε := r.grow g
theorem call_ev {m : List D → FR} {np : Nat} {σ : L2.St} {H : Hp} {Q : VK} (ev : EvP T W (EV.call m fr) σ H Q) (hnp : ∀ ds, ds.length ≠ np → m ds = .bot) : tCallSD (spM T np m) [] (WE W) (EvA T W fr) σ H Q := by
  obtain ⟨F0, B0, A, F, ε, rel, pp⟩ := ev
  refine ⟨F0, B0, A, F, ε, rel, (post_bind pp).imp fun xs ε1 F1 H1 s1 rel1 p1 vs rvs => ?_⟩
  show spM T np m (vs ++ []) H1 Q (WE W σ)
  rw [List.append_nil]
  refine ⟨?_, F1, xs, rel1.fh, rvs, ?_⟩
  · rw [← rvs.length]
    exact Classical.byContradiction fun hne => by
      rw [hnp xs hne] at p1
      exact p1
  · cases hm : m xs with
    | bot => rw [hm] at p1; exact p1
    | ret d => rw [hm] at p1; exact fun v F' H' g rv => p1 F' H' g.ff (rel1.grow g) v rv
    | rse c fs => rw [hm] at p1; exact fun cls dx F' H' g xr => p1 F' H' cls dx g.ff (rel1.grow g) xr
    | rto o =>
      rw [hm] at p1
      intro q ho F' H' g fq hq hq' ro
      obtain ⟨d, e1, p2⟩ := post_of p1
      cases o with
      | i c fs => cases e1
      | d kvs => cases e1
      | l xs2 =>
        cases e1
        cases ho with
        | lst vs2 =>
          have sf : Same F' (upd F' q (.lst vs2)) := Same.new fq
          have g2 : Grow F1 H1 (upd F' q (.lst vs2)) H' := ⟨g.ff.trans sf, fun y u hy => by
            by_cases z : y = q
            · subst z
              rw [upd_same] at hy
              cases hy
              exact hq'
            · rw [upd_ne z] at hy
              exact g.fh y u hy, g.hh, fun y hy => by
            by_cases z : y = q
            · subst z
              exact .inr hq
            · rw [upd_ne z] at hy
              exact g.nw y hy⟩
          refine p2 _ H' g2.ff (rel1.grow g2) _ ?_
          simp only [Rep]
          exact ⟨q, vs2, rfl, upd_same, Reps.mono sf ro⟩
        | _ => exact ro.elim
theorem callO_ev {m : List D → FR} {np : Nat} {σ : L2.St} {H : Hp} {Q : VK} (ev : EvO T W (EV.callO m fr) σ H Q) (hnp : ∀ ds, ds.length ≠ np → m ds = .bot) : tCallSD (spM T np m) [] (WE W) (EvA T W fr) σ H Q := by
  obtain ⟨F0, B0, A, F, ε, rel, pp⟩ := ev
  refine ⟨F0, B0, A, F, ε, rel, (post_bind pp).imp fun xs ε1 F1 H1 s1 rel1 p1 vs rvs => ?_⟩
  show spM T np m (vs ++ []) H1 Q (WE W σ)
  rw [List.append_nil]
  refine ⟨?_, F1, xs, rel1.fh, rvs, ?_⟩
  · rw [← rvs.length]
    exact Classical.byContradiction fun hne => by
      rw [hnp xs hne] at p1
      exact p1
  · cases hm : m xs with
    | bot => rw [hm] at p1; exact p1
    | ret d => rw [hm] at p1; exact p1.elim
    | rse c fs => rw [hm] at p1; exact fun cls dx F' H' g xr => p1 F' H' cls dx g.ff (rel1.grow g) xr
    | rto o =>
      rw [hm] at p1
      intro q ho F' H' g fq hq hq' ro
      refine p1 F' H' g.ff (rel1.grow g) q ho fq (rel1.bh.free hq) hq' ro fun i hi => ?_
      obtain ⟨⟨k, o1, h1⟩, h2⟩ := hi
      obtain ⟨b, hb, e2, _, _, _, hhb, _⟩ := rel1.sl i _ h1
      rw [h2] at e2
      cases e2
      rw [hq] at hhb
      cases hhb
theorem fn_np {np n : Nat} {g : FS} : ∀ ds : List D, ds.length ≠ np → fn np n g ds = .bot := fun ds h => by
  unfold fn
  rw [if_neg h]
/-- a def's mirror knows its own number of arguments -/
class Np (np : outParam Nat) (m : List D → FR) : Prop where
  np : ∀ ds : List D, ds.length ≠ np → m ds = .bot
instance {np n : Nat} {g : FS} : Np np (fn np n g) := ⟨fn_np⟩
theorem sE_call {m : List D → FR} (D0 : Df X.prog X.w X.K X.mg X.base T x k ps m) (hnp : ∀ ds, ds.length ≠ ps.length → m ds = .bot) (hr : Room k X.A) (hg : Gl X x) (tk : Takes X W) (ha : SA X T W (e :: es) fr)
    (hdb : (x == ("__debug__" : Str)) = false := by decide) (he : starEach (e :: es) X.env = (false, eval e X.env) :: starEach es X.env := by rfl) (hpl : (backTo pos (starEach es X.env)).any (·.1) = false := by rfl) :
    SE X T W (.Call (.Name x p) (e :: es) [] pos) (EV.call m fr) := by
  obtain ⟨f, fd, h1, h2, h3, h4⟩ := D0.ex
  exact impE (pe_callSD h3 hr hg h1 h2 h4 .nil (passAt tk) ha hdb he hpl) fun σ H Q ev => call_ev ev hnp
theorem sO_call {m : List D → FR} (D0 : Df X.prog X.w X.K X.mg X.base T x k ps m) (hnp : ∀ ds, ds.length ≠ ps.length → m ds = .bot) (hr : Room k X.A) (hg : Gl X x) (tk : Takes X W) (ha : SA X T W (e :: es) fr)
    (hdb : (x == ("__debug__" : Str)) = false := by decide) (he : starEach (e :: es) X.env = (false, eval e X.env) :: starEach es X.env := by rfl) (hpl : (backTo pos (starEach es X.env)).any (·.1) = false := by rfl) :
    SO X T W (.Call (.Name x p) (e :: es) [] pos) (EV.callO m fr) := by
  obtain ⟨f, fd, h1, h2, h3, h4⟩ := D0.ex
  exact impE (pe_callSD h3 hr hg h1 h2 h4 .nil (passAt tk) ha hdb he hpl) fun σ H Q ev => callO_ev ev hnp
/-- what a def's own body takes -/
theorem takesK {P : Program} {w : World} {K : PySem.W.Frag} {mg : Str → Option Value} {base : Heap} {N : List Str} {qual : Str} {scope : Scope} {f : Addr} {cd : Value} {A : Around} {outer : List PySem.Env} {s : Shared} {H : Hp} {E : XK} :
    Takes (cxOf (L2.CX P w) P w K mg base N qual scope f cd A outer s H E) (WK E) := takes_of rfl rfl rfl rfl
end
end EV
set_option maxRecDepth 100000
/-! EvQ: defs that change what they are handed; __init__ and instances. -/
namespace EV
open PySem L2
section
variable {T : Tb} {E : XK} {F0 B0 F H F' H' : Hp} {A : List Addr} {σ : L2.St} {ε : Env}
theorem RelE.growB {i : Nat} {k : Option Nat} {o o' : O} {a : Addr} {ho' : HO} (r : RelE T F0 B0 A F H σ ε) (e : ε[i]? = some (.ow k o)) (ev : σ[i]? = some (some (.ref a))) (g : GrowB a F H F' H') (ha' : H' a = some ho') (ro : RepO T F' o' ho') :
    RelE T F0 B0 A F' H' σ (ε.set i (.ow k o')) := by
  obtain ⟨a', ho, e1, fa, ba, ka, ha, _⟩ := r.sl i _ e
  have ea : a' = a := by rw [ev] at e1; cases e1; rfl
  subst ea
  have iε : i < ε.length := lt_of_get e
  refine ⟨r.f0.trans g.ff, g.fh, fun p u h => ?_, fun p h => ?_, by simpa using r.len, fun j s ej => ?_, fun j l b h1 h2 => ?_⟩
  · exact g.hh p u (ne_of_none h ba) (r.bh p u h)
  · rcases g.nw p h with z | z
    · exact r.fr p z
    · exact .inr (r.bh.free z)
  · by_cases q : j = i
    · subst q
      rw [List.getElem?_set_self iε] at ej
      cases ej
      exact ⟨a', ho', ev, g.fa, ba, ka, ha', ro⟩
    · rw [List.getElem?_set_ne (Ne.symm q)] at ej
      have z := r.sl j s ej
      cases s with
      | no => trivial
      | sh d =>
        obtain ⟨u, e1, e2⟩ := z
        exact ⟨u, e1, e2.mono g.ff⟩
      | ow k1 o1 =>
        obtain ⟨b, hb, e2, fb, bb, kb, hhb, rb⟩ := z
        have ne : b ≠ a' := by
          rintro rfl
          exact q (r.nd j i b ⟨⟨_, _, ej⟩, e2⟩ ⟨⟨_, _, e⟩, ev⟩)
        refine ⟨b, hb, e2, ?_, bb, kb, g.hh b _ ne hhb, rb.mono g.ff⟩
        cases z : F' b with
        | none => rfl
        | some u =>
          rcases g.nw b (by rw [z]; simp) with y | y
          · exact absurd fb y
          · rw [hhb] at y; cases y
  · have go : ∀ {j}, OwnA (ε.set i (.ow k o')) σ j b → OwnA ε σ j b := by
      rintro j ⟨⟨k, o, g1⟩, g2⟩
      by_cases q : j = i
      · subst q
        exact ⟨⟨_, _, e⟩, g2⟩
      · rw [List.getElem?_set_ne (Ne.symm q)] at g1
        exact ⟨⟨k, o, g1⟩, g2⟩
    exact r.nd j l b (go h1) (go h2)
/-- at the entry of a def that changes what stands at a -/
theorem rel_startQ {n : Nat} {o : O} {a : Addr} {ho : HO} {ds : List D} {us : List V} {N : List Str} (hn : N.length = n) (s : Same F H) (fa : F a = none) (ha : H a = some ho) (ro : RepO T F o ho) (r : Reps T F ds us) (hl : us.length + 1 ≤ n) :
    RelE T F (fun p => if p = a then none else H p) [a] F H (L2.start N (.ref a :: us)) (.ow (some 0) o :: start (n - 1) ds) := by
  have hb : ∀ p u, (if p = a then none else H p) = some u → p ≠ a ∧ H p = some u := fun p u h => by
    by_cases e : p = a
    · rw [if_pos e] at h; cases h
    · rw [if_neg e] at h; exact ⟨e, h⟩
  have st : L2.start N (.ref a :: us) = some (.ref a) :: L2.start (N.tail) us := by
    unfold L2.start
    simp only [List.map_cons, List.length_cons, List.length_tail, List.cons_append]
    congr 3
    omega
  have hN : N.tail.length = n - 1 := by simp [hn]
  obtain ⟨h1, h2⟩ := get_start (N := N.tail) hN r (by omega)
  rw [st]
  have no : ∀ j b, ¬ OwnA (start (n - 1) ds) (L2.start N.tail us) j b := fun j b hj => by
    obtain ⟨⟨k, o1, g1⟩, g2⟩ := hj
    rcases h2 j _ g1 with z | ⟨d, v, z, _⟩ <;> cases z
  refine ⟨.refl _, s, fun p u h => (hb p u h).2, fun p h => .inl h, by simp [h1], fun i sl e => ?_, fun i j b g1 g2 => ?_⟩
  · cases i with
    | zero =>
      simp at e
      subst e
      exact ⟨a, ho, by simp, fa, by simp, fun n z => by cases z; rfl, ha, ro⟩
    | succ i =>
      simp only [List.getElem?_cons_succ] at e ⊢
      rcases h2 i sl e with rfl | ⟨d, v, rfl, e1, rv⟩
      · trivial
      · exact ⟨v, e1, rv⟩
  · cases i with
    | zero =>
      cases j with
      | zero => rfl
      | succ j =>
        obtain ⟨⟨k, o1, q1⟩, q2⟩ := g2
        simp only [List.getElem?_cons_succ] at q1 q2
        exact absurd ⟨⟨k, o1, q1⟩, q2⟩ (no j b)
    | succ i =>
      obtain ⟨⟨k, o1, q1⟩, q2⟩ := g1
      simp only [List.getElem?_cons_succ] at q1 q2
      exact absurd ⟨⟨k, o1, q1⟩, q2⟩ (no i b)
theorem growB_of {a : Addr} (r : RelE T F (fun p => if p = a then none else H p) [a] F' H' σ ε) (fa : F a = none) (ha : F' a = none) (hne : H a ≠ none) : GrowB a F H F' H' := ⟨r.f0, r.fh, fun p u ne h => r.bh p u (by show (if p = a then none else H p) = some u; rw [if_neg ne]; exact h), fun p h => by
  by_cases e : p = a
  · subst e
    exact absurd ha h
  · rcases r.fr p h with z | z
    · exact .inl z
    · rw [if_neg e] at z
      exact .inr z, ha⟩
theorem growX_of {a : Addr} (r : RelE T F (fun p => if p = a then none else H p) [a] F' H' σ ε) : GrowX a F H F' H' := ⟨r.f0, r.fh, fun p u ne h => r.bh p u (by show (if p = a then none else H p) = some u; rw [if_neg ne]; exact h), fun p h => by
  by_cases e : p = a
  · exact .inr (.inr e)
  · rcases r.fr p h with z | z
    · exact .inl z
    · rw [if_neg e] at z
      exact .inr (.inl z)⟩
theorem outQ_of {d : D} {ε : Env} {o : O} (h : ε.head? = some (.ow (some 0) o)) : outQ d ε = .ret d o := by
  unfold outQ
  rw [h]
  rfl
theorem fnQ_end {np n : Nat} {g : FS} {vs : List V} {N : List Str} {Q : VK} (hn : N.length = n) (h : spQ T np (fnQ np n g) vs H Q E) (hle : np ≤ n) : EvS T (WK E) g { nx := fun _ H' => Q .non H', rt := Q } (L2.start N vs) H := by
  obtain ⟨hl, F, a, us, o, ho, ds, rfl, s, fa, ha, ro, r, h⟩ := h
  have hlu : us.length + 1 = np := by simpa using hl
  refine ⟨F, _, [a], F, _, rel_startQ hn s fa ha ro r (by omega), ?_⟩
  unfold fnQ at h
  rw [if_pos (by rw [r.length]; exact hlu)] at h
  have hne : H a ≠ none := by rw [ha]; simp
  -- what stands at the first name at the end
  have fin : ∀ {σ' : L2.St} {F' H' : Hp} {ε : Env} {d : D} {v : V}, RelE T F (fun p => if p = a then none else H p) [a] F' H' σ' ε → Rep T F' d v → (match outQ d ε with
      | .bot => False
      | .ret d o' => ∀ v F' H' ho', GrowB a F H F' H' → H' a = some ho' → RepO T F' o' ho' → Rep T F' d v → Q v H'
      | .rse c fs => ∀ cls dx F' H', GrowX a F H F' H' → XRep T F' H' c fs cls dx → E cls dx H') → Q v H' := by
    intro σ' F' H' ε d v rel rv h
    cases he : ε.head? with
    | none => unfold outQ at h; rw [he] at h; exact h.elim
    | some sl =>
      have e0 : ε[0]? = some sl := by rw [← List.head?_eq_getElem?]; exact he
      cases sl with
      | no => unfold outQ at h; rw [he] at h; exact h.elim
      | sh d => unfold outQ at h; rw [he] at h; exact h.elim
      | ow k o' =>
        cases k with
        | none => unfold outQ at h; rw [he] at h; exact h.elim
        | some k =>
          cases k with
          | succ k => unfold outQ at h; rw [he] at h; exact h.elim
          | zero =>
            rw [outQ_of he] at h
            obtain ⟨a', ho', e1, fa', ba', ka', ha', ro'⟩ := rel.sl 0 _ e0
            have ea : a' = a := by
              have := ka' 0 rfl
              simpa using this.symm
            subst ea
            exact h v F' H' ho' (growB_of rel fa fa' hne) ha' ro' rv
  cases hg : g (.ow (some 0) o :: start (n - 1) ds) with
  | bot => rw [hg] at h; exact h
  | ex c fs ε =>
    rw [hg] at h
    exact fun σ' F' H' cls dx s' rel x => h cls dx F' H' (growX_of rel) x
  | ok fl ε =>
    rw [hg] at h
    cases fl with
    | nx => exact fun σ' F' H' s' rel => fin (d := .non) rel (by simp only [Rep]) h
    | br => exact h.elim
    | ct => exact h.elim
    | rt d => exact fun σ' F' H' s' rel v rv => fin rel rv h
    | ro o => exact h.elim
end
section
variable {P : Program} {w : World} {K : PySem.W.Frag} {mg : Str → Option Value} {base : Heap} {T : Tb}
theorem fnQ_ok {x qual : Str} {st : Stmt} {f : Addr} {fd : FuncData} {N ps : List Str} {k n : Nat} {g : FS} (F : Fun K x qual st f fd) (S : FnScope N ps (defScope st)) (hn : N.length = n) (hle : ps.length ≤ n)
    (hb : ∀ (cdv : Value) (A : Around) (outer : List PySem.Env) (s : Shared) (H : Hp) (E : XK), Room k (A.deeper (PyProof.Rows.envOfC qual (defScope st) s.heap.objs.size f cdv)) → SSs (cxOf (L2.CX P w) P w K mg base N qual (defScope st) f cdv A outer s H E) T (WK E) (defBody st) g) :
    FnOk P w K mg base (L2.CX P w) (k + 1) f fd ps (spQ T ps.length (fnQ ps.length n g)) :=
  F.okX S (fun vs H Q E h => h.1) fun cdv A outer s H vs Q E hr h => ⟨_, hb cdv A outer s H E hr, fnQ_end hn h hle⟩
end
section
variable {X : Cx} {T : Tb} {W : WX} {E : XK} {pos p : Pos} {e : Expr} {es : List Expr} {x : Str} {k : Nat} {ps : List Str} {fr : FA}
theorem callQ_ev {m : O → List D → FQ} {i np : Nat} {σ : L2.St} {H : Hp} {Q : VK} (ev : EvP T W (EV.callQ m i fr) σ H Q) (hnp : ∀ o ds, ds.length + 1 ≠ np → m o ds = .bot) : tCallSD (spQ T np m) [] (WE W) (tCons (tVar i) (EvA T W fr)) σ H Q := by
  obtain ⟨F0, B0, A, F, ε, rel, pp⟩ := ev
  unfold EV.callQ at pp
  split at pp
  rotate_left
  · exact pp.elim
  rename_i hh
  obtain ⟨v0, ev0⟩ := has_get rel hh
  refine ⟨v0, ev0, F0, B0, A, F, ε, rel, (post_bind pp).imp fun xs ε1 F1 H1 s1 rel1 p1 vs rvs => ?_⟩
  show spQ T np m (v0 :: vs ++ []) H1 Q (WE W σ)
  rw [List.append_nil]
  split at p1
  rotate_left
  · exact p1.elim
  rename_i k o he
  obtain ⟨a, ho, e1, fa, ba, ka, ha, ro⟩ := rel1.sl i _ he
  have q : v0 = .ref a := by rw [ev0] at e1; cases e1; rfl
  subst q
  refine ⟨?_, F1, a, vs, o, ho, xs, rfl, rel1.fh, fa, ha, ro, rvs, ?_⟩
  · show vs.length + 1 = np
    rw [← rvs.length]
    exact Classical.byContradiction fun hne => by
      rw [hnp o xs hne] at p1
      exact p1
  · cases hm : m o xs with
    | bot => rw [hm] at p1; exact p1
    | rse c fs => rw [hm] at p1; exact p1.elim
    | ret d o' =>
      rw [hm] at p1
      exact fun v F' H' ho' g ha' ro' rv => p1 F' H' g.ff (rel1.growB he e1 g ha' ro') v rv
theorem fnQ_np {np n : Nat} {g : FS} : ∀ (o : O) (ds : List D), ds.length + 1 ≠ np → fnQ np n g o ds = .bot := fun o ds h => by
  unfold fnQ
  rw [if_neg h]
/-- f(x, ..): f changes what stands at x -/
theorem sE_callQ {m : O → List D → FQ} {i : Nat} {y : Str} {py : Pos} (D0 : Dq X.prog X.w X.K X.mg X.base T x k ps m) (hnp : ∀ o ds, ds.length + 1 ≠ ps.length → m o ds = .bot) (hr : Room k X.A) (hg : Gl X x) (tk : Takes X W) (hv : PE X (.Name y py) (tVar i)) (ha : SA X T W es fr)
    (hs : starEach (.Name y py :: es) X.env = (false, eval (.Name y py) X.env) :: starEach es X.env := by rfl) (hdb : (x == ("__debug__" : Str)) = false := by decide) (hpl : (backTo pos (starEach es X.env)).any (·.1) = false := by rfl) :
    SE X T W (.Call (.Name x p) (.Name y py :: es) [] pos) (EV.callQ m i fr) := by
  obtain ⟨f, fd, h1, h2, h3, h4⟩ := D0.ex
  exact impE (pe_callSD h3 hr hg h1 h2 h4 .nil (passAt tk) (pa_cons hv ha hs) hdb hs hpl) fun σ H Q ev => callQ_ev ev hnp

/-! ### instances -/
theorem zip_of_map : ∀ (gs : List (Str × V)), gs = (gs.map (·.1)).zip (gs.map (·.2))
  | [] => rfl
  | g :: gs => by
    simp only [List.map_cons, List.zip_cons_cons]
    rw [← zip_of_map gs]
/-- the promise behind C(..) -/
theorem mk_sp {c np : Nat} {m : O → List D → FQ} {xs : List D} {vs : List V} {F1 H1 : Hp} {Q : VK} {E : XK} (hnp : ∀ o ds, ds.length + 1 ≠ np → m o ds = .bot) (sm : Same F1 H1) (rvs : Reps T F1 xs vs)
    (h : match mk c (T.nm c) m xs with
      | .bot => False
      | .ret d => ∀ v F' H', Grow F1 H1 F' H' → Rep T F' d v → Q v H'
      | .rto o => False
      | .rse c fs => ∀ cls dx F' H', Grow F1 H1 F' H' → XRep T F' H' c fs cls dx → E cls dx H') :
    ∀ x dx, H1 x = none → H1 dx = none → dx ≠ x → spQ T np m (.ref x :: vs) (upd (upd H1 dx (.own x)) x (.ins (T.ad c) dx [])) (fun v H2 => v = .non ∧ Q (.ref x) H2) E := by
  intro x dx hx hdx hne
  have hup : Same H1 (upd (upd H1 dx (.own x)) x (.ins (T.ad c) dx [])) := fun b o e => by
    rw [upd_ne (ne_of_none e hx), upd_ne (ne_of_none e hdx)]
    exact e
  have hnone : ∀ q, upd (upd H1 dx (.own x)) x (.ins (T.ad c) dx []) q = none → H1 q = none := fun q hq => hup.free hq
  have fx : F1 x = none := sm.free hx
  refine ⟨?_, F1, x, vs, .i c [], .ins (T.ad c) dx [], xs, rfl, sm.trans hup, fx, upd_same, ⟨rfl, rfl, .nil⟩, rvs, ?_⟩
  · show vs.length + 1 = np
    rw [← rvs.length]
    exact Classical.byContradiction fun hne => by
      unfold mk at h
      rw [hnp _ xs hne] at h
      exact h
  · unfold mk at h
    cases hm : m (.i c []) xs with
    | bot => rw [hm] at h; exact h
    | rse c' fs =>
      rw [hm] at h
      intro cls dx' F' H' g xr
      refine h cls dx' F' H' ⟨g.ff, g.fh, fun p u hp => g.hh p u (ne_of_none hp hx) (hup p u hp), fun p hp => ?_⟩ xr
      rcases g.nw p hp with z | z | z
      · exact .inl z
      · exact .inr (hnone p z)
      · subst z
        exact .inr hx
    | ret d o' =>
      rw [hm] at h
      cases d with
      | non =>
        cases o' with
        | l ys => exact h.elim
        | d kvs => exact h.elim
        | i c' fs =>
          dsimp only at h
          by_cases hnm : c' = c ∧ fs.map (·.1) = T.nm c
          rotate_left
          · rw [if_neg hnm] at h
            exact h.elim
          rw [if_pos hnm] at h
          obtain ⟨rfl, hnm⟩ := hnm
          intro v F' H' ho' g hx' ro' rv
          simp only [Rep] at rv
          refine ⟨rv, ?_⟩
          cases ho' with
          | ins C dx' gs =>
            obtain ⟨rfl, r1, r2⟩ := ro'
            have sf : Same F' (upd F' x (.ins (T.ad c') dx' gs)) := Same.new g.fa
            refine h (.ref x) (upd F' x (.ins (T.ad c') dx' gs)) H' ⟨g.ff.trans sf, fun p u hp => ?_, fun p u hp => g.hh p u (ne_of_none hp hx) (hup p u hp), fun p hp => ?_⟩ ?_
            · by_cases z : p = x
              · subst z
                rw [upd_same] at hp
                cases hp
                exact hx'
              · rw [upd_ne z] at hp
                exact g.fh p u hp
            · by_cases z : p = x
              · subst z
                exact .inr hx
              · rw [upd_ne z] at hp
                rcases g.nw p hp with y | y
                · exact .inl y
                · exact .inr (hnone p y)
            · simp only [Rep]
              have eg : gs = (T.nm c').zip (gs.map (·.2)) := by
                rw [← hnm, ← r1]
                exact zip_of_map gs
              refine ⟨x, dx', gs.map (·.2), rfl, ?_, ?_, Reps.mono sf r2⟩
              · rw [upd_same, ← eg]
              · rw [← hnm, ← r1]
                simp
          | _ => exact ro'.elim
      | _ => exact h.elim
theorem passK {X : Cx} {E : XK} (tk : Takes X (WK E)) : Passes (L2.CX X.prog X.w) X E := passes_call tk fun _ _ _ _ h => h
/-- C(..): dd the defaults that fill up -/
theorem sE_make {c : Nat} {C fI : Addr} {fd : FuncData} {m : O → List D → FQ} {dd : List D} {dvs : List V} {ds : List Value} (M : Mk X.K C fI) (F : FnOk X.prog X.w X.K X.mg X.base (L2.CX X.prog X.w) k fI fd ps (spQ T ps.length m)) (hC : T.ad c = C) (hr : Room (k + 1) X.A) (hg : Gl X x) (hm : X.mg x = some (.ref C)) (hb : Binds X.K fd ps ds) (hd : Vals dvs ds)
    (hdd : ∀ F, Reps T F dd dvs) (hnp : ∀ o ds, ds.length + 1 ≠ ps.length → m o ds = .bot) (tk : Takes X (WK E)) (ha : SA X T (WK E) (e :: es) fr)
    (hdb : (x == ("__debug__" : Str)) = false := by decide) (he : starEach (e :: es) X.env = (false, eval e X.env) :: starEach es X.env := by rfl) (hpl : (backTo pos (starEach es X.env)).any (·.1) = false := by rfl) :
    SE X T (WK E) (.Call (.Name x p) (e :: es) [] pos) (EV.call (fun xs => mk c (T.nm c) m (xs ++ dd)) fr) :=
  impE (pe_make M F hr hg hm hb hd (passK tk) ha hdb he hpl) fun σ H Q ⟨F0, B0, A, F, ε, rel, pp⟩ =>
  ⟨F0, B0, A, F, ε, rel, (post_bind pp).imp fun xs ε1 F1 H1 s1 rel1 p1 vs rvs => by
    subst hC
    refine mk_sp hnp rel1.fh (rvs.append (hdd F1)) ?_
    dsimp only at p1
    cases hm : mk c (T.nm c) m (xs ++ dd) with
    | bot => rw [hm] at p1; exact p1
    | ret d => rw [hm] at p1; exact fun v F' H' g rv => p1 F' H' g.ff (rel1.grow g) v rv
    | rto o =>
      unfold mk at hm
      split at hm
      · split at hm <;> cases hm
      · cases hm
      · cases hm
    | rse c fs => rw [hm] at p1; exact fun cls dx F' H' g xr => p1 F' H' cls dx g.ff (rel1.grow g) xr⟩
end
end EV
set_option maxRecDepth 100000
/-! EvB: the built-in operators and functions. -/
namespace EV
open PySem L2
section
variable {X : Cx} {T : Tb} {W : WX}
/-! ### what a value is -/
theorem rep_int {F : Hp} {i : Int} {v : V} : Rep T F (.int i) v ↔ v = .int i := by simp only [Rep]
theorem rep_str {F : Hp} {i : Str} {v : V} : Rep T F (.str i) v ↔ v = .str i := by simp only [Rep]
theorem rep_bl {F : Hp} {i : Bool} {v : V} : Rep T F (.bl i) v ↔ v = .bl i := by simp only [Rep]
theorem rep_non {F : Hp} {v : V} : Rep T F .non v ↔ v = .non := by simp only [Rep]
theorem rep_lst {F : Hp} {xs : List D} {v : V} : Rep T F (.lst xs) v ↔ ∃ a vs, v = .ref a ∧ F a = some (.lst vs) ∧ Reps T F xs vs := by simp only [Rep]
theorem rep_tup {F : Hp} {xs : List D} {v : V} : Rep T F (.tup xs) v ↔ ∃ a vs, v = .ref a ∧ F a = some (.tup vs) ∧ Reps T F xs vs := by simp only [Rep]
theorem rep_ins {F : Hp} {c : Nat} {fs : List D} {v : V} : Rep T F (.ins c fs) v ↔ ∃ a dx vs, v = .ref a ∧ F a = some (.ins (T.ad c) dx ((T.nm c).zip vs)) ∧ vs.length = (T.nm c).length ∧ Reps T F fs vs := by simp only [Rep]
theorem rep_scr {F : Hp} {ns : List Int} {v : V} : Rep T F (.scr ns) v ↔ ∃ a, v = .ref a ∧ SqL T.K F a (ns.map V.int) := by simp only [Rep]
/-- ints in, a flat value out -/
theorem opS_I {C : Int → Int → Prop} {g : Int → Int → V} {f : D → D → Option D} {h : Int → Int → D} (hf : ∀ x y z, f x y = some z → ∃ i j, x = .int i ∧ y = .int j ∧ C i j ∧ z = h i j) (hg : ∀ F i j, Rep T F (h i j) (g i j)) : OpS T (rI C g) f := by
  intro F H x y z v u Q rx ry s e k
  obtain ⟨i, j, rfl, rfl, c, rfl⟩ := hf x y z e
  exact ⟨i, j, rep_int.mp rx, rep_int.mp ry, c, k _ F H (Grow.refl s) (hg F i j)⟩
theorem opS_I0 {g : Int → Int → V} {f : D → D → Option D} {h : Int → Int → D} (hf : ∀ x y z, f x y = some z → ∃ i j, x = .int i ∧ y = .int j ∧ z = h i j) (hg : ∀ F i j, Rep T F (h i j) (g i j)) : OpS T (rI0 g) f := by
  intro F H x y z v u Q rx ry s e k
  obtain ⟨i, j, rfl, rfl, rfl⟩ := hf x y z e
  exact ⟨i, j, rep_int.mp rx, rep_int.mp ry, k _ F H (Grow.refl s) (hg F i j)⟩
/-- a new list -/
theorem new_lst {F H : Hp} {xs : List D} {vs : List V} {p : Addr} (s : Same F H) (hp : H p = none) (r : Reps T F xs vs) : Grow F H (upd F p (.lst vs)) (upd H p (.lst vs)) ∧ Rep T (upd F p (.lst vs)) (.lst xs) (.ref p) :=
  ⟨Grow.new s hp, rep_lst.mpr ⟨p, vs, rfl, upd_same, r.mono (Same.new (s.free hp))⟩⟩
theorem new_tup {F H : Hp} {xs : List D} {vs : List V} {p : Addr} (s : Same F H) (hp : H p = none) (r : Reps T F xs vs) : Grow F H (upd F p (.tup vs)) (upd H p (.tup vs)) ∧ Rep T (upd F p (.tup vs)) (.tup xs) (.ref p) :=
  ⟨Grow.new s hp, rep_tup.mpr ⟨p, vs, rfl, upd_same, r.mono (Same.new (s.free hp))⟩⟩
def rAddA (K : PySem.W.Frag) : R2 := fun x y H Q => ((rI0 fun i j => .int (i + j)) x y H Q) ∨ (∃ i j, x = .str i ∧ y = .str j ∧ i.length + j.length ≤ sizeLine ∧ Q (.str (i ++ j)) H) ∨ rCat x y H Q ∨ rCatT K x y H Q
theorem op_addA : OpR X (binaryOp .Add) (rAddA X.K) := op_add.or (op_add_str.or (op_cat.or op_catT))
theorem opS_add {K : PySem.W.Frag} : OpS T (rAddA K) dAdd := by
  intro F H x y z v u Q rx ry s e k
  unfold dAdd at e
  split at e
  · rename_i i j
    cases e
    exact .inl ⟨i, j, rep_int.mp rx, rep_int.mp ry, k _ F H (Grow.refl s) (rep_int.mpr rfl)⟩
  · rename_i i j
    split at e
    · rename_i h
      cases e
      exact .inr (.inl ⟨i, j, rep_str.mp rx, rep_str.mp ry, line_le h, k _ F H (Grow.refl s) (rep_str.mpr rfl)⟩)
    · cases e
  · rename_i xs ys
    split at e
    · rename_i h
      cases e
      obtain ⟨a, vs, rfl, h1, r1⟩ := rep_lst.mp rx
      obtain ⟨b, us, rfl, h2, r2⟩ := rep_lst.mp ry
      refine .inr (.inr (.inl ⟨a, b, vs, us, rfl, rfl, s _ _ h1, s _ _ h2, line_le (by rw [← r1.length, ← r2.length]; exact h), fun p hp => ?_⟩))
      obtain ⟨g, r⟩ := new_lst s hp (r1.append r2)
      exact k _ _ _ g r
    · cases e
  · rename_i x0 xs y0 ys
    split at e
    · rename_i h
      cases e
      obtain ⟨a, vs, rfl, h1, r1⟩ := rep_tup.mp rx
      obtain ⟨b, us, rfl, h2, r2⟩ := rep_tup.mp ry
      have l1 := r1.length
      have l2 := r2.length
      simp only [List.length_cons] at l1 l2
      have n1 : vs ≠ [] := by intro z; subst z; simp at l1
      have n2 : us ≠ [] := by intro z; subst z; simp at l2
      refine .inr (.inr (.inr ⟨a, b, vs, us, rfl, rfl, SqT.of (s _ _ h1), SqT.of (s _ _ h2), n1, line_le (by omega), fun z => absurd z n2, fun _ p hp => ?_⟩))
      obtain ⟨g, r⟩ := new_tup s hp (r1.append r2)
      exact k _ _ _ g r
    · cases e
  · cases e
theorem opS_sub : OpS T (rI0 fun i j => .int (i - j)) dSub := opS_I0 (h := fun i j => .int (i - j)) (fun x y z e => by
  unfold dSub at e
  split at e
  · cases e; exact ⟨_, _, rfl, rfl, rfl⟩
  · cases e) fun F i j => rep_int.mpr rfl
theorem intBits_le (x : Int) : Builtin.Int.intBits x ≤ bits x := by
  unfold Builtin.Int.intBits bits
  split <;> omega
def rMulA : R2 := fun x y H Q => ((rI CMulX fun i j => .int (i * j)) x y H Q) ∨ rRep x y H Q
theorem op_mulA : OpR X (binaryOp .Mult) rMulA := op_mulX.or op_rep
theorem opS_mul : OpS T rMulA dMul := by
  intro F H x y z v u Q rx ry s e k
  unfold dMul at e
  split at e
  · rename_i i j
    split at e
    · rename_i h
      cases e
      refine .inl ⟨i, j, rep_int.mp rx, rep_int.mp ry, ?_, k _ F H (Grow.refl s) (rep_int.mpr rfl)⟩
      have h' : bits i + bits j ≤ 134217728 := by simpa [wide] using h
      have h1 := intBits_le i
      have h2 := intBits_le j
      unfold CMulX
      omega
    · cases e
  · rename_i xs n
    split at e
    · rename_i h
      cases e
      obtain ⟨a, vs, rfl, h1, r1⟩ := rep_lst.mp rx
      refine .inr ⟨a, n, vs, rfl, rep_int.mp ry, s _ _ h1, h.1, h.2.1, line_le (by rw [← r1.length]; exact h.2.2), fun p hp => ?_⟩
      obtain ⟨g, r⟩ := new_lst s hp (r1.flat n.toNat)
      exact k _ _ _ g r
    · cases e
  · cases e
theorem opS_mod : OpS T (rI (fun _ j => j ≠ 0) fun i j => .int (i.fmod j)) dMod := opS_I (h := fun i j => .int (i.fmod j)) (fun x y z e => by
  unfold dMod at e
  split at e
  · split at e
    · rename_i h; cases e; exact ⟨_, _, rfl, rfl, h, rfl⟩
    · cases e
  · cases e) fun F i j => rep_int.mpr rfl
def CDivA (_ j : Int) : Prop := j ≠ 0 ∧ j.natAbs.log2 < 9000
theorem op_divA : OpR X (binaryOp .FloorDiv) (rI CDivA fun i j => .int (i.fdiv j)) := opI fun _ _ _ _ _ _ _ hc q => PyProof.Rows.floordiv_int hc.1 q (.inl (PyProof.noPylong_of_log2 hc.2))
theorem iop_divA : OpR X (inplaceOp .FloorDiv) (rI CDivA fun i j => .int (i.fdiv j)) := opI fun _ _ _ _ _ _ _ hc q => PyProof.Rows.ifloordiv_int hc.1 q (.inl (PyProof.noPylong_of_log2 hc.2))
theorem opS_div : OpS T (rI CDivA fun i j => .int (i.fdiv j)) dDiv := opS_I (h := fun i j => .int (i.fdiv j)) (fun x y z e => by
  unfold dDiv at e
  split at e
  · split at e
    · rename_i h; cases e; exact ⟨_, _, rfl, rfl, h, rfl⟩
    · cases e
  · cases e) fun F i j => rep_int.mpr rfl
def CPowA (i j : Int) : Prop := 0 ≤ j ∧ (bits i : Int) * j ≤ 2 ^ 27
theorem op_powA : OpR X (binaryOp .Pow) (rI CPowA fun i j => .int (i ^ j.toNat)) := opI fun i j _ _ _ _ _ hc q => PyProof.Rows.pow_int hc.1 (Int.le_trans (Int.mul_le_mul_of_nonneg_right (by have := intBits_le i; omega) hc.1) hc.2) q
theorem opS_pow : OpS T (rI CPowA fun i j => .int (i ^ j.toNat)) dPow := opS_I (h := fun i j => .int (i ^ j.toNat)) (fun x y z e => by
  unfold dPow at e
  split at e
  · split at e
    · rename_i h; cases e; exact ⟨_, _, rfl, rfl, h, rfl⟩
    · cases e
  · cases e) fun F i j => rep_int.mpr rfl
theorem opS_and1 : OpS T (fun x y H Q => ∃ n : Nat, x = .int (n : Int) ∧ y = .int 1 ∧ Q (.int ((n % 2 : Nat) : Int)) H) dAnd1 := by
  intro F H x y z v u Q rx ry s e k
  unfold dAnd1 at e
  split at e
  · rename_i n
    cases e
    exact ⟨n, rep_int.mp rx, rep_int.mp ry, k _ F H (Grow.refl s) (rep_int.mpr rfl)⟩
  · cases e
theorem opS_lt : OpS T (rI0 fun i j => .bl (decide (i < j))) dLt := opS_I0 (h := fun i j => .bl (decide (i < j))) (fun x y z e => by
  unfold dLt at e
  split at e
  · cases e; exact ⟨_, _, rfl, rfl, rfl⟩
  · cases e) fun F i j => rep_bl.mpr rfl
theorem opS_le : OpS T (rI0 fun i j => .bl (decide (i ≤ j))) dLe := opS_I0 (h := fun i j => .bl (decide (i ≤ j))) (fun x y z e => by
  unfold dLe at e
  split at e
  · cases e; exact ⟨_, _, rfl, rfl, rfl⟩
  · cases e) fun F i j => rep_bl.mpr rfl
theorem opS_gt : OpS T (rI0 fun i j => .bl (decide (j < i))) dGt := opS_I0 (h := fun i j => .bl (decide (j < i))) (fun x y z e => by
  unfold dGt at e
  split at e
  · cases e; exact ⟨_, _, rfl, rfl, rfl⟩
  · cases e) fun F i j => rep_bl.mpr rfl
theorem opS_ge : OpS T (rI0 fun i j => .bl (decide (j ≤ i))) dGe := opS_I0 (h := fun i j => .bl (decide (j ≤ i))) (fun x y z e => by
  unfold dGe at e
  split at e
  · cases e; exact ⟨_, _, rfl, rfl, rfl⟩
  · cases e) fun F i j => rep_bl.mpr rfl
theorem unS_neg : UnS T (rU fun i => .int (-i)) dNeg := by
  intro F H x z v Q rx s e k
  unfold dNeg at e
  split at e
  · cases e
    exact ⟨_, rep_int.mp rx, k _ F H (Grow.refl s) (rep_int.mpr rfl)⟩
  · cases e
theorem opS_isN : OpS T (fun x y H Q => y = .non ∧ Q (.bl (decide (x = .non))) H) dIsN := by
  intro F H x y z v u Q rx ry s e k
  unfold dIsN at e
  split at e
  · cases e
    refine ⟨rep_non.mp ry, k _ F H (Grow.refl s) ?_⟩
    cases x with
    | non => rw [rep_non.mp rx]; exact rep_bl.mpr (by simp)
    | bl b => rw [rep_bl.mp rx]; exact rep_bl.mpr (by simp)
    | int b => rw [rep_int.mp rx]; exact rep_bl.mpr (by simp)
    | str b => rw [rep_str.mp rx]; exact rep_bl.mpr (by simp)
    | lst b => obtain ⟨a, vs, rfl, _⟩ := rep_lst.mp rx; exact rep_bl.mpr (by simp)
    | tup b => obtain ⟨a, vs, rfl, _⟩ := rep_tup.mp rx; exact rep_bl.mpr (by simp)
    | ins c b => obtain ⟨a, _, vs, rfl, _⟩ := rep_ins.mp rx; exact rep_bl.mpr (by simp)
    | scr b => obtain ⟨a, rfl, _⟩ := rep_scr.mp rx; exact rep_bl.mpr (by simp)
  · cases e
theorem opS_notN : OpS T (fun x y H Q => y = .non ∧ Q (.bl (!decide (x = .non))) H) dNotN := by
  intro F H x y z v u Q rx ry s e k
  unfold dNotN at e
  split at e
  · cases e
    refine ⟨rep_non.mp ry, k _ F H (Grow.refl s) ?_⟩
    cases x with
    | non => rw [rep_non.mp rx]; exact rep_bl.mpr (by simp)
    | bl b => rw [rep_bl.mp rx]; exact rep_bl.mpr (by simp)
    | int b => rw [rep_int.mp rx]; exact rep_bl.mpr (by simp)
    | str b => rw [rep_str.mp rx]; exact rep_bl.mpr (by simp)
    | lst b => obtain ⟨a, vs, rfl, _⟩ := rep_lst.mp rx; exact rep_bl.mpr (by simp)
    | tup b => obtain ⟨a, vs, rfl, _⟩ := rep_tup.mp rx; exact rep_bl.mpr (by simp)
    | ins c b => obtain ⟨a, _, vs, rfl, _⟩ := rep_ins.mp rx; exact rep_bl.mpr (by simp)
    | scr b => obtain ⟨a, rfl, _⟩ := rep_scr.mp rx; exact rep_bl.mpr (by simp)
  · cases e

/-! ### == -/
mutual
theorem dp_of {K : PySem.W.Frag} {F H : Hp} (s : Same F H) : ∀ {d : D} {v : V}, Rep T F d v → (toP d).canLay0 = true → Dp K H v (toP d)
  | .non, v, r, _ => by rw [rep_non.mp r]; exact .non
  | .bl b, v, r, _ => by rw [rep_bl.mp r]; exact .bl b
  | .int b, v, r, _ => by rw [rep_int.mp r]; exact .int b
  | .str b, v, r, _ => by rw [rep_str.mp r]; exact .str b
  | .lst xs, v, r, h => by
    obtain ⟨a, vs, rfl, h1, r1⟩ := rep_lst.mp r
    simp only [toP, PyData.canLay0] at h ⊢
    exact .lst (SqL.of (s _ _ h1)) (dps_of s r1 h)
  | .tup xs, v, r, h => by
    obtain ⟨a, vs, rfl, h1, r1⟩ := rep_tup.mp r
    simp only [toP, PyData.canLay0] at h ⊢
    exact .tup (SqT.of (s _ _ h1)) (dps_of s r1 h)
  | .ins c fs, v, r, h => by simp [toP, PyData.canLay0] at h
  | .scr ns, v, r, h => by simp [toP, PyData.canLay0] at h
theorem dps_of {K : PySem.W.Frag} {F H : Hp} (s : Same F H) : ∀ {ds : List D} {vs : List V}, Reps T F ds vs → PyData.canLayAll0 (toPs ds) = true → DpAll K H vs (toPs ds)
  | [], vs, r, _ => by rw [reps_nil.mp r]; exact .nil
  | d :: ds, vs, r, h => by
    obtain ⟨v, us, rfl, r1, r2⟩ := reps_cons.mp r
    simp only [toPs, PyData.canLayAll0, Bool.and_eq_true] at h ⊢
    exact .cons (dp_of s r1 h.1) (dps_of s r2 h.2)
end
theorem shp_ok {d : PyData} (h : shp d = true) : SeqAt.shaped d = true ∧ d.canLay0 = true := ⟨h, (Bool.and_eq_true_iff.mp h).1⟩
theorem opS_eq {K : PySem.W.Frag} : OpS T (rEqD K) dEq := by
  intro F H x y z v u Q rx ry s e k
  unfold dEq at e
  split at e
  · rename_i h
    cases e
    exact ⟨_, _, dp_of s rx (shp_ok h.1).2, dp_of s ry (shp_ok h.2).2, (shp_ok h.1).1, (shp_ok h.2).1, k _ F H (Grow.refl s) (rep_bl.mpr rfl)⟩
  · cases e
theorem opS_ne {K : PySem.W.Frag} : OpS T (rNeD K) dNe := by
  intro F H x y z v u Q rx ry s e k
  unfold dNe at e
  split at e
  · rename_i h
    cases e
    exact ⟨_, _, dp_of s rx (shp_ok h.1).2, dp_of s ry (shp_ok h.2).2, (shp_ok h.1).1, (shp_ok h.2).1, k _ F H (Grow.refl s) (rep_bl.mpr rfl)⟩
  · cases e
theorem opS_in {K : PySem.W.Frag} : OpS T (rInD K) dIn := by
  intro F H x y z v u Q rx ry s e k
  unfold dIn at e
  split at e
  · split at e
    · rename_i ys h
      cases e
      exact ⟨_, _, dp_of s rx (shp_ok h.1).2, dp_of s ry (shp_ok h.2).2, (shp_ok h.1).1, (shp_ok h.2).1, k _ F H (Grow.refl s) (rep_bl.mpr rfl)⟩
    · cases e
  · cases e
theorem opS_notIn {K : PySem.W.Frag} : OpS T (rNotInD K) dNotIn := by
  intro F H x y z v u Q rx ry s e k
  unfold dNotIn at e
  split at e
  · split at e
    · rename_i ys h
      cases e
      exact ⟨_, _, dp_of s rx (shp_ok h.1).2, dp_of s ry (shp_ok h.2).2, (shp_ok h.1).1, (shp_ok h.2).1, k _ F H (Grow.refl s) (rep_bl.mpr rfl)⟩
    · cases e
  · cases e

/-! ### subscripts -/
theorem getN_map {α β : Type} {f : α → β} {xs : List α} {i : Int} {y : β} (h : (getN xs i).map f = some y) : getN (xs.map f) i = some y := by
  rw [getN_def] at h
  rw [getN_def]
  rw [List.length_map]
  split
  · rename_i h0
    rw [if_pos h0] at h
    rw [List.getElem?_map]
    exact h
  · rename_i h0
    rw [if_neg h0] at h
    split
    · rename_i h1
      rw [if_pos h1] at h
      rw [List.getElem?_map]
      exact h
    · rename_i h1
      rw [if_neg h1] at h
      cases h
theorem opS_ix {K : PySem.W.Frag} (hK : T.K = K) : OpS T (rIx K) dIx := by
  subst hK
  intro F H x y z v u Q rx ry s e k
  unfold dIx at e
  split at e
  · rename_i xs i
    obtain ⟨a, vs, rfl, h1, r1⟩ := rep_lst.mp rx
    obtain ⟨w, e1, rw⟩ := getN_reps r1 e
    exact .inl ⟨a, vs, i, w, rfl, rep_int.mp ry, SqL.of (s _ _ h1), getN_atI e1, k _ F H (Grow.refl s) rw⟩
  · rename_i xs i
    obtain ⟨a, vs, rfl, h1, r1⟩ := rep_tup.mp rx
    obtain ⟨w, e1, rw⟩ := getN_reps r1 e
    exact .inr (.inl ⟨a, vs, i, w, rfl, rep_int.mp ry, SqT.of (s _ _ h1), getN_atI e1, k _ F H (Grow.refl s) rw⟩)
  · rename_i ns i
    obtain ⟨a, rfl, h1⟩ := rep_scr.mp rx
    cases hg : getN ns i with
    | none => rw [hg] at e; cases e
    | some n =>
      rw [hg] at e
      cases e
      exact .inl ⟨a, _, i, .int n, rfl, rep_int.mp ry, s.seq h1, getN_atI (getN_map (by rw [hg]; rfl)), k _ F H (Grow.refl s) (rep_int.mpr rfl)⟩
  · rename_i t i
    split at e
    · rename_i hl
      cases hg : getN t.cps.toList i with
      | none => rw [hg] at e; cases e
      | some n =>
        rw [hg] at e
        cases e
        exact .inr (.inr ⟨t, i, n, rep_str.mp rx, rep_int.mp ry, line_le hl, getN_atI hg, k _ F H (Grow.refl s) (rep_str.mpr rfl)⟩)
    · cases e
  · cases e
/-- x[e] at a name -/
theorem sE_ixN {i : Nat} {a b : Expr} {fb : FE} {pos : Pos} (hK : T.K = X.K) (ha : PE X a (tVar i)) (hb : SE X T W b fb) (hp : PlainIx b) : SE X T W (.Subscript a b pos) (EV.ixN i fb) := impE (pe_ix ix_seq ha hb hp) fun σ H Q ⟨F0, B0, A, F, ε, rel, p⟩ => by
  unfold EV.ixN at p
  split at p
  · rename_i hh
    obtain ⟨v, ev⟩ := has_get rel hh
    refine ⟨v, ev, F0, B0, A, F, ε, rel, (post_bind p).imp fun k ε1 F1 H1 s1 rel1 p1 kv rk => ?_⟩
    split at p1
    · rename_i kk xs he
      split at p1
      · rename_i n
        obtain ⟨z, ez, p2⟩ := post_of p1
        obtain ⟨a', ho, e1, fa, ba, ka, ha, ro⟩ := rel1.sl i _ he
        have q : v = .ref a' := by rw [ev] at e1; cases e1; rfl
        cases ho with
        | lst vs =>
          obtain ⟨w, ew, rw⟩ := getN_reps ro ez
          exact .inl ⟨a', vs, n, w, q, rep_int.mp rk, SqL.of ha, getN_atI ew, p2 F1 H1 (.refl _) rel1 w rw⟩
        | _ => exact ro.elim
      · exact p1.elim
    · rename_i d he
      obtain ⟨z, ez, p2⟩ := post_of p1
      obtain ⟨u, e1, r⟩ := rel1.sl i _ he
      have q : v = u := by rw [ev] at e1; cases e1; rfl
      subst q
      exact opS_ix hK F1 H1 d k z v kv Q r rk rel1.fh ez fun w F' H' gr rw => p2 F' H' gr.ff (rel1.grow gr) w rw
    · exact p1.elim
  · exact p.elim
end
end EV
set_option maxRecDepth 100000
/-! EvB2: built-in functions; new lists; slices. -/
namespace EV
open PySem L2
section
variable {X : Cx} {T : Tb} {W : WX} {pos : Pos} {a b e : Expr} {fa fb fe : FE} {fr : FA} {es : List Expr}
theorem reps_one {F : Hp} {d : D} {vs : List V} (h : Reps T F [d] vs) : ∃ v, vs = [v] ∧ Rep T F d v := by
  obtain ⟨v, us, rfl, r, r2⟩ := reps_cons.mp h
  cases reps_nil.mp r2
  exact ⟨v, rfl, r⟩
theorem reps_two {F : Hp} {d e : D} {vs : List V} (h : Reps T F [d, e] vs) : ∃ v u, vs = [v, u] ∧ Rep T F d v ∧ Rep T F e u := by
  obtain ⟨v, us, rfl, r, r2⟩ := reps_cons.mp h
  obtain ⟨u, rfl, r3⟩ := reps_one r2
  exact ⟨v, u, rfl, r, r3⟩
theorem caS_len {K : PySem.W.Frag} (hK : T.K = K) : CaS T (fun xs H Q => ∃ x n, xs = [x] ∧ LenV K x H n ∧ Q (.int n) H) bLen := by
  intro F H xs z vs Q r s e k
  unfold bLen at e
  simp only [len_eq] at e
  split at e
  · cases e
    obtain ⟨v, rfl, rv⟩ := reps_one r
    obtain ⟨a, us, rfl, h1, r1⟩ := rep_lst.mp rv
    exact ⟨.ref a, _, rfl, .inl ⟨us, SqL.of (s _ _ h1), r1.length⟩, k _ F H (Grow.refl s) (rep_int.mpr rfl)⟩
  · cases e
    obtain ⟨v, rfl, rv⟩ := reps_one r
    obtain ⟨a, us, rfl, h1, r1⟩ := rep_tup.mp rv
    exact ⟨.ref a, _, rfl, .inr ⟨us, SqT.of (s _ _ h1), r1.length⟩, k _ F H (Grow.refl s) (rep_int.mpr rfl)⟩
  · rename_i ns
    cases e
    obtain ⟨v, rfl, rv⟩ := reps_one r
    obtain ⟨a, rfl, h1⟩ := rep_scr.mp rv
    rw [hK] at h1
    exact ⟨.ref a, ns.length, rfl, .inl ⟨_, s.seq h1, by simp⟩, k _ F H (Grow.refl s) (rep_int.mpr rfl)⟩
  · rename_i x
    split at e
    · rename_i hl
      cases e
      obtain ⟨v, rfl, rv⟩ := reps_one r
      exact ⟨v, x.length, rfl, by rw [rep_str.mp rv]; exact ⟨line_le hl, rfl⟩, k _ F H (Grow.refl s) (rep_int.mpr rfl)⟩
    · cases e
  · cases e
theorem caS_abs : CaS T (fun xs H Q => ∃ i, xs = [.int i] ∧ Q (.int (if i < 0 then -i else i)) H) bAbs := by
  intro F H xs z vs Q r s e k
  unfold bAbs at e
  split at e
  · cases e
    obtain ⟨v, rfl, rv⟩ := reps_one r
    rw [rep_int.mp rv]
    exact ⟨_, rfl, k _ F H (Grow.refl s) (rep_int.mpr rfl)⟩
  · cases e
theorem caS_int : CaS T (fun xs H Q => (∃ i, xs = [.int i] ∧ Q (.int i) H) ∨ ∃ k, xs = [.bl k] ∧ Q (.int (if k then 1 else 0)) H) bInt := by
  intro F H xs z vs Q r s e k
  unfold bInt at e
  split at e
  · cases e
    obtain ⟨v, rfl, rv⟩ := reps_one r
    rw [rep_int.mp rv]
    exact .inl ⟨_, rfl, k _ F H (Grow.refl s) (rep_int.mpr rfl)⟩
  · cases e
    obtain ⟨v, rfl, rv⟩ := reps_one r
    rw [rep_bl.mp rv]
    exact .inr ⟨_, rfl, k _ F H (Grow.refl s) (rep_int.mpr rfl)⟩
  · cases e
theorem caS_min : CaS T (fun xs H Q => ∃ i j, xs = [.int i, .int j] ∧ Q (.int (if j < i then j else i)) H) bMin := by
  intro F H xs z vs Q r s e k
  unfold bMin at e
  split at e
  · cases e
    obtain ⟨v, u, rfl, rv, ru⟩ := reps_two r
    rw [rep_int.mp rv, rep_int.mp ru]
    exact ⟨_, _, rfl, k _ F H (Grow.refl s) (rep_int.mpr rfl)⟩
  · cases e
theorem caS_max : CaS T (fun xs H Q => ∃ i j, xs = [.int i, .int j] ∧ Q (.int (if j > i then j else i)) H) bMax := by
  intro F H xs z vs Q r s e k
  unfold bMax at e
  split at e
  · cases e
    obtain ⟨v, u, rfl, rv, ru⟩ := reps_two r
    rw [rep_int.mp rv, rep_int.mp ru]
    exact ⟨_, _, rfl, k _ F H (Grow.refl s) (rep_int.mpr rfl)⟩
  · cases e
theorem caS_gcd : CaS T rGcd bGcd := by
  intro F H xs z vs Q r s e k
  unfold bGcd at e
  split at e
  · cases e
    obtain ⟨v, u, rfl, rv, ru⟩ := reps_two r
    rw [rep_int.mp rv, rep_int.mp ru]
    exact ⟨_, _, rfl, k _ F H (Grow.refl s) (rep_int.mpr rfl)⟩
  · cases e
def rLcm : List V → Hp → VK → Prop := fun vs H Q => ∃ a b : Int, vs = [.int a, .int b] ∧ (a.natAbs.log2 < 13000 ∧ b.natAbs.log2 < 13000) ∧ Q (.int ((Nat.lcm a.natAbs b.natAbs : Nat) : Int)) H
theorem mono_log2 {a b : Nat} (h : a ≤ b) : a.log2 ≤ b.log2 := by
  by_cases ha : a = 0
  · subst ha
    simp
  · exact (Nat.le_log2 (by omega)).mpr (Nat.le_trans (Nat.log2_self_le ha) h)
theorem lcm_log2 {a b : Nat} (h1 : a.log2 < 13000) (h2 : b.log2 < 13000) : (Nat.lcm a b).log2 < 26001 := by
  have e : bitsLine = 134217728 := by decide
  have l1 : a < 2 ^ 13000 := by
    by_cases ha : a = 0
    · subst ha; exact Nat.two_pow_pos _
    · exact (Nat.log2_lt ha).mp h1
  have l2 : b < 2 ^ 13000 := by
    by_cases ha : b = 0
    · subst ha; exact Nat.two_pow_pos _
    · exact (Nat.log2_lt ha).mp h2
  have l3 : Nat.lcm a b ≤ a * b := Nat.div_le_self _ _
  have l4 : a * b < 2 ^ 26000 := by
    rw [show 26000 = 13000 + 13000 from rfl, Nat.pow_add]
    exact Nat.mul_lt_mul'' l1 l2
  by_cases hz : Nat.lcm a b = 0
  · rw [hz]; simp
  · exact Nat.lt_succ_of_lt ((Nat.log2_lt hz).mpr (Nat.lt_of_le_of_lt l3 l4))
theorem cr_lcm : CallR X (.builtin "math.lcm") rLcm := by
  intro pins s σ H vs us Q I r h
  obtain ⟨a, b, rfl, ⟨h1, h2⟩, q⟩ := h
  obtain ⟨t, u, rfl⟩ := Vals.int2 r
  have e : bitsLine = 134217728 := by decide
  have m1 : (max 1 a.natAbs).log2 ≤ a.natAbs.log2 := by
    by_cases hz : a.natAbs = 0
    · rw [hz]; decide
    · rw [Nat.max_eq_right (by omega)]; exact Nat.le_refl _
  have m2 : (max a.natAbs b.natAbs).log2 < 13000 := by
    rcases Nat.le_total a.natAbs b.natAbs with z | z
    · rw [Nat.max_eq_right z]; exact h2
    · rw [Nat.max_eq_left z]; exact h1
  have l1 : Nat.lcm 1 a.natAbs = a.natAbs := Nat.lcm_one_left _
  have run := PySem.W.mg_run_lcm a t b u (by omega) (by omega) (by
    rw [l1]
    show (Int.natAbs _).log2 < _
    rw [Int.natAbs_natCast]
    have := lcm_log2 h1 h2
    omega)
  rw [l1] at run
  exact PySem.call_function_meets PySem.W.MGF.kind_lcm PySem.W.MGF.plain_lcm PySem.W.MGF.entry_lcm (PySem.W.MGF.args_lcm _ _) run.meets ⟨.int _, H, I.tok _, ⟨_, rfl⟩, q⟩
theorem caS_lcm : CaS T rLcm bLcm := by
  intro F H xs z vs Q r s e k
  unfold bLcm at e
  split at e
  · split at e
    · rename_i h
      cases e
      obtain ⟨v, u, rfl, rv, ru⟩ := reps_two r
      rw [rep_int.mp rv, rep_int.mp ru]
      exact ⟨_, _, rfl, h, k _ F H (Grow.refl s) (rep_int.mpr rfl)⟩
    · cases e
  · cases e
theorem ints_reps : ∀ {xs : List D} {ns : List Int} {F : Hp} {vs : List V}, intsD xs = some ns → Reps T F xs vs → vs = ns.map V.int
  | [], ns, F, vs, h, r => by
    cases h
    rw [reps_nil.mp r]
    rfl
  | d :: xs, ns, F, vs, h, r => by
    obtain ⟨v, us, rfl, r1, r2⟩ := reps_cons.mp r
    cases d with
    | int i =>
      simp only [intsD] at h
      cases hx : intsD xs with
      | none => rw [hx] at h; cases h
      | some ms =>
        rw [hx] at h
        cases h
        rw [rep_int.mp r1, ints_reps hx r2]
        rfl
    | _ => simp [intsD] at h
theorem caS_sum {K : PySem.W.Frag} : CaS T (rSum K) bSum := by
  intro F H xs z vs Q r s e k
  unfold bSum at e
  split at e
  · rename_i ys
    obtain ⟨v, rfl, rv⟩ := reps_one r
    obtain ⟨a, us, rfl, h1, r1⟩ := rep_lst.mp rv
    cases hx : intsD ys with
    | none => rw [hx] at e; cases e
    | some ms =>
      rw [hx] at e
      cases e
      have := ints_reps hx r1
      subst this
      exact ⟨a, ms, rfl, SqL.of (s _ _ h1), k _ F H (Grow.refl s) (rep_int.mpr rfl)⟩
  · cases e
theorem caS_tuple {K : PySem.W.Frag} : CaS T (fun xs H Q => ∃ p ys, xs = [.ref p] ∧ ((SqL K H p ys ∧ ∀ l, H l = none → Q (.ref l) (upd H l (.tup ys))) ∨ (SqT K H p ys ∧ Q (.ref p) H))) bTuple := by
  intro F H xs z vs Q r s e k
  unfold bTuple at e
  split at e
  · cases e
    obtain ⟨v, rfl, rv⟩ := reps_one r
    obtain ⟨a, us, rfl, h1, r1⟩ := rep_lst.mp rv
    exact ⟨a, us, rfl, .inl ⟨SqL.of (s _ _ h1), fun l hl => by
      obtain ⟨g, r⟩ := new_tup s hl r1
      exact k _ _ _ g r⟩⟩
  · cases e
    obtain ⟨v, rfl, rv⟩ := reps_one r
    obtain ⟨a, us, rfl, h1, r1⟩ := rep_tup.mp rv
    exact ⟨a, us, rfl, .inr ⟨SqT.of (s _ _ h1), k _ F H (Grow.refl s) (rep_tup.mpr ⟨a, us, rfl, h1, r1⟩)⟩⟩
  · cases e

/-! ### isinstance -/
def tyN : Ty → String
  | .int => "int" | .bool => "bool" | .str => "str" | .list => "list" | .tuple => "tuple"
/-- what isinstance asks of an own class -/
structure IsC (K : PySem.W.Frag) (C : Addr) : Prop where
  cl : Cls K C
  ha : PySem.W.findIn K (.ref C) "__class__" = some (some (.builtin "object.__class__"))
  hn : PySem.W.specialIn K (.builtin "object.__class__") "__get__" = some (some (.builtin "getset_descriptor.__get__"))
  htk : PySem.W.takesIn K (.builtin "object.__class__") = some true
  hm : PySem.W.mroIn K C (.type "object") = some true
  no : ∀ t : Ty, PySem.W.kitOne K (.ref C) (.type (tyN t)) = some false
/-- all own classes that values may have -/
def Alls (K : PySem.W.Frag) (T : Tb) : Prop := ∀ c fs F v, Rep T F (.ins c fs) v → IsC K (T.ad c)
def rIsTy (K : PySem.W.Frag) (t : Ty) : List V → Hp → VK → Prop := fun xs H Q => ∃ x tv b, xs = [x] ∧ TyX K H x tv ∧ PySem.W.kitOne K tv (.type (tyN t)) = some b ∧ Q (.bl b) H
theorem sq_ty {K : PySem.W.Frag} {H : Hp} {a : Addr} {xs : List V} (h : SqL K H a xs) : TyX K H (.ref a) (.type "list") := by
  rcases h with (h | ⟨o, h⟩) | ⟨o, its, n, h1, h2, h3, _⟩
  · exact .base (.lst h)
  · exact .base (.frz h)
  · exact .kList h1 (by first | exact h2 | exact h3)
theorem kit_b {K : PySem.W.Frag} {a b : String} {r : Bool} (h : kitB a b = some r) : PySem.W.kitOne K (.type a) (.type b) = some r := kit_ty h
theorem caS_isTy {K : PySem.W.Frag} {t : Ty} (hK : T.K = K) (al : ∀ c, IsC K (T.ad c)) : CaS T (rIsTy K t) (bIsTy t) := by
  intro F H xs z vs Q r s e k
  unfold bIsTy at e
  split at e
  · rename_i d
    obtain ⟨v, rfl, rv⟩ := reps_one r
    have fin : ∀ b, isTy t d = some b → Q (.bl b) H := fun b hb => by
      rw [hb] at e
      cases e
      exact k _ F H (Grow.refl s) (rep_bl.mpr rfl)
    have ty : ∀ (tv : String), TyX K H v (.type tv) → ∀ b, kitB tv (tyN t) = some b → isTy t d = some b → rIsTy K t [v] H Q := fun tv htv b hb hd => ⟨v, _, b, rfl, htv, kit_ty hb, fin b hd⟩
    cases d with
    | non =>
      rw [rep_non.mp rv] at ty ⊢
      cases t <;> exact ty "NoneType" (.base .non) false (by decide +kernel) rfl
    | bl b =>
      rw [rep_bl.mp rv] at ty ⊢
      cases t
      · exact ty "bool" (.base (.bl b)) true (by decide +kernel) rfl
      · exact ty "bool" (.base (.bl b)) true (by decide +kernel) rfl
      all_goals exact ty "bool" (.base (.bl b)) false (by decide +kernel) rfl
    | int b =>
      rw [rep_int.mp rv] at ty ⊢
      cases t
      · exact ty "int" (.base (.int b)) true (by decide +kernel) rfl
      all_goals exact ty "int" (.base (.int b)) false (by decide +kernel) rfl
    | str b =>
      rw [rep_str.mp rv] at ty ⊢
      cases t
      · exact ty "str" (.base (.str b)) false (by decide +kernel) rfl
      · exact ty "str" (.base (.str b)) false (by decide +kernel) rfl
      · exact ty "str" (.base (.str b)) true (by decide +kernel) rfl
      all_goals exact ty "str" (.base (.str b)) false (by decide +kernel) rfl
    | lst b =>
      obtain ⟨a, us, rfl, h1, r1⟩ := rep_lst.mp rv
      have h := s _ _ h1
      cases t
      · exact ty "list" (.base (.lst h)) false (by decide +kernel) rfl
      · exact ty "list" (.base (.lst h)) false (by decide +kernel) rfl
      · exact ty "list" (.base (.lst h)) false (by decide +kernel) rfl
      · exact ty "list" (.base (.lst h)) true (by decide +kernel) rfl
      · exact ty "list" (.base (.lst h)) false (by decide +kernel) rfl
    | tup b =>
      obtain ⟨a, us, rfl, h1, r1⟩ := rep_tup.mp rv
      have h := s _ _ h1
      cases t
      · exact ty "tuple" (.base (.tup h)) false (by decide +kernel) rfl
      · exact ty "tuple" (.base (.tup h)) false (by decide +kernel) rfl
      · exact ty "tuple" (.base (.tup h)) false (by decide +kernel) rfl
      · exact ty "tuple" (.base (.tup h)) false (by decide +kernel) rfl
      · exact ty "tuple" (.base (.tup h)) true (by decide +kernel) rfl
    | scr b =>
      obtain ⟨a, rfl, h1⟩ := rep_scr.mp rv
      rw [hK] at h1
      have h := sq_ty (s.seq h1)
      cases t
      · exact ty "list" h false (by decide +kernel) rfl
      · exact ty "list" h false (by decide +kernel) rfl
      · exact ty "list" h false (by decide +kernel) rfl
      · exact ty "list" h true (by decide +kernel) rfl
      · exact ty "list" h false (by decide +kernel) rfl
    | ins c fs =>
      obtain ⟨a, dx, us, rfl, h1, hl, r1⟩ := rep_ins.mp rv
      have h := s _ _ h1
      have I := al c
      exact ⟨_, _, false, rfl, .base (.ins h I.cl I.ha I.hn I.htk I.hm), I.no t, fin false (by cases t <;> rfl)⟩
  · cases e
def rIsC (K : PySem.W.Frag) (C : Addr) : List V → Hp → VK → Prop := fun xs H Q => ∃ x tv b, xs = [x] ∧ TyX K H x tv ∧ PySem.W.kitOne K tv (.ref C) = some b ∧ Q (.bl b) H
/-- isinstance(x, C): what the kit says of each kind -/
structure KitC (K : PySem.W.Frag) (T : Tb) (n c : Nat) : Prop where
  non : PySem.W.kitOne K (.type "NoneType") (.ref (T.ad c)) = some false
  bl : PySem.W.kitOne K (.type "bool") (.ref (T.ad c)) = some false
  int : PySem.W.kitOne K (.type "int") (.ref (T.ad c)) = some false
  str : PySem.W.kitOne K (.type "str") (.ref (T.ad c)) = some false
  lst : PySem.W.kitOne K (.type "list") (.ref (T.ad c)) = some false
  tup : PySem.W.kitOne K (.type "tuple") (.ref (T.ad c)) = some false
  ins : ∀ c', c' < n → PySem.W.kitOne K (.ref (T.ad c')) (.ref (T.ad c)) = some (decide (c' = c))
theorem caS_isC {K : PySem.W.Frag} {n c : Nat} (hK : T.K = K) (al : ∀ c, IsC K (T.ad c)) (kc : KitC K T n c) : CaS T (rIsC K (T.ad c)) (bIsC n c) := by
  intro F H xs z vs Q r s e k
  unfold bIsC at e
  have fin : ∀ b, some z = some (.bl b) → Q (.bl b) H := fun b hb => by
    cases hb
    exact k _ F H (Grow.refl s) (rep_bl.mpr rfl)
  split at e
  · rename_i c' fs
    obtain ⟨v, rfl, rv⟩ := reps_one r
    obtain ⟨a, dx, us, rfl, h1, hl, r1⟩ := rep_ins.mp rv
    have h := s _ _ h1
    have I := al c'
    split at e
    · rename_i hn
      exact ⟨_, _, _, rfl, .base (.ins h I.cl I.ha I.hn I.htk I.hm), kc.ins c' hn, fin _ e.symm⟩
    · cases e
  · rename_i d hd
    obtain ⟨v, rfl, rv⟩ := reps_one r
    have fin := fin _ e.symm
    cases d with
    | non => rw [rep_non.mp rv]; exact ⟨_, _, _, rfl, .base .non, kc.non, fin⟩
    | bl b => rw [rep_bl.mp rv]; exact ⟨_, _, _, rfl, .base (.bl b), kc.bl, fin⟩
    | int b => rw [rep_int.mp rv]; exact ⟨_, _, _, rfl, .base (.int b), kc.int, fin⟩
    | str b => rw [rep_str.mp rv]; exact ⟨_, _, _, rfl, .base (.str b), kc.str, fin⟩
    | lst b => obtain ⟨a, us, rfl, h1, r1⟩ := rep_lst.mp rv; exact ⟨_, _, _, rfl, .base (.lst (s _ _ h1)), kc.lst, fin⟩
    | tup b => obtain ⟨a, us, rfl, h1, r1⟩ := rep_tup.mp rv; exact ⟨_, _, _, rfl, .base (.tup (s _ _ h1)), kc.tup, fin⟩
    | scr b => obtain ⟨a, rfl, h1⟩ := rep_scr.mp rv; rw [hK] at h1; exact ⟨_, _, _, rfl, sq_ty (s.seq h1), kc.lst, fin⟩
    | ins c' fs => exact absurd rfl (hd c' fs)
  · cases e
/-- isinstance(e, T) -/
theorem sE_isTy {t : Ty} {e2 : Expr} {p : Pos} (hK : T.K = X.K) (al : ∀ c, IsC X.K (T.ad c)) (hg : Gl X "isinstance") (hm : X.mg "isinstance" = none) (ha : SE X T W e fe) (h2 : PE X e2 (tC (.ty (tyN t))))
    (he : starEach [e, e2] X.env = (false, eval e X.env) :: starEach [e2] X.env := by rfl) (he2 : starEach [e2] X.env = (false, eval e2 X.env) :: starEach [] X.env := by rfl) (hpl : (backTo pos (starEach [e2] X.env)).any (·.1) = false := by rfl) :
    SE X T W (.Call (.Name "isinstance" p) [e, e2] [] pos) (bi (bIsTy t) (aCons fe aNil)) :=
  impE (pe_callB call_isi hg hm (by decide +kernel) (pa_cons ha (pa_cons h2 pa_nil he2) he) (by decide) (by decide) he hpl) fun σ H Q ⟨F0, B0, A, F, ε, rel, p⟩ => ⟨F0, B0, A, F, ε, rel, by
    have pb := post_bind p
    unfold aCons aNil at pb
    cases hfe : fe ε with
    | bot => rw [hfe] at pb; exact pb
    | ex c fs ε' => rw [hfe] at pb; exact pb
    | ok x ε1 =>
      rw [hfe] at pb
      intro F1 H1 s1 rel1 v rv
      obtain ⟨z, e, hz⟩ := post_of (pb F1 H1 s1 rel1)
      obtain ⟨x', tv, b, ex, h1, h2, h3⟩ := caS_isTy (K := X.K) (t := t) hK al F1 H1 [x] z [v] Q (.cons rv .nil) rel1.fh e fun w F' H' gr rw => hz F' H' gr.ff (rel1.grow gr) w rw
      cases ex
      exact ⟨v, .ty (tyN t), tv, .type (tyN t), b, rfl, .ty _, h1, h2, h3⟩⟩
theorem sE_isC {n c : Nat} {e2 : Expr} {p : Pos} (hK : T.K = X.K) (al : ∀ c, IsC X.K (T.ad c)) (kc : KitC X.K T n c) (hg : Gl X "isinstance") (hm : X.mg "isinstance" = none) (ha : SE X T W e fe) (h2 : PE X e2 (tC (.ref (T.ad c))))
    (he : starEach [e, e2] X.env = (false, eval e X.env) :: starEach [e2] X.env := by rfl) (he2 : starEach [e2] X.env = (false, eval e2 X.env) :: starEach [] X.env := by rfl) (hpl : (backTo pos (starEach [e2] X.env)).any (·.1) = false := by rfl) :
    SE X T W (.Call (.Name "isinstance" p) [e, e2] [] pos) (bi (bIsC n c) (aCons fe aNil)) :=
  impE (pe_callB call_isi hg hm (by decide +kernel) (pa_cons ha (pa_cons h2 pa_nil he2) he) (by decide) (by decide) he hpl) fun σ H Q ⟨F0, B0, A, F, ε, rel, p⟩ => ⟨F0, B0, A, F, ε, rel, by
    have pb := post_bind p
    unfold aCons aNil at pb
    cases hfe : fe ε with
    | bot => rw [hfe] at pb; exact pb
    | ex c fs ε' => rw [hfe] at pb; exact pb
    | ok x ε1 =>
      rw [hfe] at pb
      intro F1 H1 s1 rel1 v rv
      obtain ⟨z, e, hz⟩ := post_of (pb F1 H1 s1 rel1)
      obtain ⟨x', tv, b, ex, h1, h2, h3⟩ := caS_isC (K := X.K) hK al kc F1 H1 [x] z [v] Q (.cons rv .nil) rel1.fh e fun w F' H' gr rw => hz F' H' gr.ff (rel1.grow gr) w rw
      cases ex
      exact ⟨v, .ref (T.ad c), tv, .ref (T.ad c), b, rfl, .own _, h1, h2, h3⟩⟩

/-! ### new lists of one's own -/
theorem fresh_done {F0 B0 F H : Hp} {A : List Addr} {σ : L2.St} {ε : Env} {o : O} {ho : HO} {p : Addr} {Q : VK} (rel : RelE T F0 B0 A F H σ ε) (hp : H p = none) (ro : RepO T F o ho)
    (h : ∀ F' H', Same F F' → RelE T F0 B0 A F' H' σ ε → ∀ p ho, F' p = none → B0 p = none → H' p = some ho → RepO T F' o ho → (∀ i, ¬ OwnA ε σ i p) → Q (.ref p) H') : Q (.ref p) (upd H p ho) := by
  obtain ⟨r1, r2, r3, r4⟩ := rel.newOwn (ho := ho) hp
  exact h F _ (.refl _) r1 p ho r2 r3 upd_same ro r4
theorem sO_lst (h : SA X T W es fr) : SO X T W (.List es pos) (lstO fr) := impE (pe_lst h) fun σ H Q ⟨F0, B0, A, F, ε, rel, p⟩ => ⟨F0, B0, A, F, ε, rel, (post_bind p).imp fun xs ε1 F1 H1 s1 rel1 p1 vs rvs => by
  split at p1
  · rename_i hl
    exact ⟨line_le (by rw [← rvs.length]; exact hl), fun q hq => fresh_done (o := .l xs) (ho := .lst vs) rel1 hq rvs p1⟩
  · exact p1.elim⟩
theorem sE_tup {x1} (h : SA X T W es fr) : SE X T W (.Tuple es x1 pos) (tupE fr) := impE (pe_tup h) fun σ H Q ⟨F0, B0, A, F, ε, rel, p⟩ => ⟨F0, B0, A, F, ε, rel, (post_bind p).imp fun xs ε1 F1 H1 s1 rel1 p1 vs rvs => by
  split at p1
  · rename_i hl
    refine ⟨line_le (by rw [← rvs.length]; exact hl), fun q hq => ?_⟩
    obtain ⟨g, r⟩ := new_tup rel1.fh hq rvs
    exact p1 _ _ g.ff (rel1.grow g) _ r
  · exact p1.elim⟩
def OpO (T : Tb) (r : R2) (g : D → D → Option O) : Prop := ∀ F H x y o v u Q, Rep T F x v → Rep T F y u → Same F H → g x y = some o → (∀ p ho, H p = none → RepO T F o ho → Q (.ref p) (upd H p ho)) → r v u H Q
def CaO (T : Tb) (r : List V → Hp → VK → Prop) (g : List D → Option O) : Prop := ∀ F H xs o vs Q, Reps T F xs vs → Same F H → g xs = some o → (∀ p ho, H p = none → RepO T F o ho → Q (.ref p) (upd H p ho)) → r vs H Q
theorem sO_bin {op : Operator} {r : R2} {g : D → D → Option O} (ho : OpR X (binaryOp op) r) (hs : OpO T r g) (ha : SE X T W a fa) (hb : SE X T W b fb) : SO X T W (.BinOp a op b pos) (binO g fa fb) := impE (pe_op ho ha hb) fun σ H Q ⟨F0, B0, A, F, ε, rel, p⟩ =>
  ⟨F0, B0, A, F, ε, rel, (post_bind p).imp fun x ε1 F1 H1 s1 rel1 p1 v rv => ⟨F0, B0, A, F1, ε1, rel1, (post_bind p1).imp fun y ε2 F2 H2 s2 rel2 p2 u ru => by
    obtain ⟨z, e, hz⟩ := post_of p2
    exact hs F2 H2 x y z v u Q (rv.mono s2) ru rel2.fh e fun p ho hp ro => fresh_done rel2 hp ro hz⟩⟩
theorem tcbO {r : List V → Hp → VK → Prop} {g : List D → Option O} (hs : CaO T r g) {σ : St} {H : Hp} {Q : VK} (h : EvO T W (biO g fr) σ H Q) : tCB r (EvA T W fr) σ H Q := by
  obtain ⟨F0, B0, A, F, ε, rel, p⟩ := h
  exact ⟨F0, B0, A, F, ε, rel, (post_bind p).imp fun xs ε1 F1 H1 s1 rel1 p1 vs rvs => by
    obtain ⟨z, e, hz⟩ := post_of p1
    exact hs F1 H1 xs z vs Q rvs rel1.fh e fun p ho hp ro => fresh_done rel1 hp ro hz⟩
theorem sE_cb {r : List V → Hp → VK → Prop} {g : List D → Option D} (h : PE X e (tCB r (EvA T W fr))) (hs : CaS T r g) : SE X T W e (bi g fr) := impE h fun _ _ _ q => tcb hs q
theorem sO_cb {r : List V → Hp → VK → Prop} {g : List D → Option O} (h : PE X e (tCB r (EvA T W fr))) (hs : CaO T r g) : SO X T W e (biO g fr) := impE h fun _ _ _ q => tcbO hs q
theorem opO_cat : OpO T rCat dCatO := by
  intro F H x y o v u Q rx ry s e k
  unfold dCatO at e
  split at e
  · split at e
    · rename_i h
      cases e
      obtain ⟨a, vs, rfl, h1, r1⟩ := rep_lst.mp rx
      obtain ⟨b, us, rfl, h2, r2⟩ := rep_lst.mp ry
      exact ⟨a, b, vs, us, rfl, rfl, s _ _ h1, s _ _ h2, line_le (by rw [← r1.length, ← r2.length]; exact h), fun p hp => k p (.lst _) hp (r1.append r2)⟩
    · cases e
  · cases e
theorem opO_rep : OpO T rRep dRepO := by
  intro F H x y o v u Q rx ry s e k
  unfold dRepO at e
  split at e
  · rename_i xs n
    split at e
    · rename_i h
      cases e
      obtain ⟨a, vs, rfl, h1, r1⟩ := rep_lst.mp rx
      exact ⟨a, n, vs, rfl, rep_int.mp ry, s _ _ h1, h.1, h.2.1, line_le (by rw [← r1.length]; exact h.2.2), fun p hp => k p (.lst _) hp (r1.flat n.toNat)⟩
    · cases e
  · cases e
theorem caO_list {K : PySem.W.Frag} (hK : T.K = K) : CaO T (fun xs H Q => ∃ p ys, xs = [.ref p] ∧ (SqL K H p ys ∨ SqT K H p ys) ∧ ∀ l, H l = none → Q (.ref l) (upd H l (.lst ys))) bList := by
  intro F H xs o vs Q r s e k
  unfold bList at e
  split at e
  · cases e
    obtain ⟨v, rfl, rv⟩ := reps_one r
    obtain ⟨a, us, rfl, h1, r1⟩ := rep_lst.mp rv
    exact ⟨a, us, rfl, .inl (SqL.of (s _ _ h1)), fun p hp => k p (.lst us) hp r1⟩
  · cases e
    obtain ⟨v, rfl, rv⟩ := reps_one r
    obtain ⟨a, us, rfl, h1, r1⟩ := rep_tup.mp rv
    exact ⟨a, us, rfl, .inr (SqT.of (s _ _ h1)), fun p hp => k p (.lst us) hp r1⟩
  · cases e
    obtain ⟨v, rfl, rv⟩ := reps_one r
    obtain ⟨a, rfl, h1⟩ := rep_scr.mp rv
    rw [hK] at h1
    exact ⟨a, _, rfl, .inl (s.seq h1), fun p hp => k p (.lst _) hp (Reps.ints)⟩
  · cases e
/-- nothing is told of this expression, of this statement -/
def stE : FE := fun _ => .bot
def stS : FS := fun _ => .bot
theorem sE_st : SE X T W e stE := ⟨fun _ _ _ _ _ _ ⟨_, _, _, _, _, _, p⟩ => p.elim⟩
theorem sS_st {st : Stmt} : SS X T W st stS := ⟨fun _ _ _ _ _ _ ⟨_, _, _, _, _, _, p⟩ => p.elim⟩
theorem sSs_st {st : List Stmt} : SSs X T W st stS := ⟨fun _ _ _ _ _ _ ⟨_, _, _, _, _, _, p⟩ => p.elim⟩
end
end EV
set_option maxRecDepth 100000
/-! EvM: dicts of one's own. -/
namespace EV
open PySem L2
section
variable {X : Cx} {T : Tb} {W : WX} {pos : Pos} {e : Expr} {fa fk fv : FE} {st : Stmt} {body : FS}
abbrev KVR (T : Tb) (F : Hp) (kvs : List ((Int ⊕ Str) × D)) (kws : List (Key × V)) : Prop := kws.map (·.1) = kvs.map (·.1) ∧ Reps T F (kvs.map (·.2)) (kws.map (·.2))
theorem kvr_nil {F : Hp} {kws : List (Key × V)} (h : KVR T F [] kws) : kws = [] := by
  have := h.1
  simpa using this
theorem kvr_cons {F : Hp} {p : (Int ⊕ Str) × D} {kvs : List ((Int ⊕ Str) × D)} {kws : List (Key × V)} (h : KVR T F (p :: kvs) kws) : ∃ v r, kws = (p.1, v) :: r ∧ Rep T F p.2 v ∧ KVR T F kvs r := by
  obtain ⟨h1, h2⟩ := h
  cases kws with
  | nil => simp at h1
  | cons q r =>
    obtain ⟨q1, q2⟩ := q
    simp only [List.map_cons, List.cons.injEq] at h1
    simp only [List.map_cons] at h2
    obtain ⟨v, us, e, r1, r2⟩ := reps_cons.mp h2
    cases e
    refine ⟨q2, r, ?_, r1, h1.2, r2⟩
    rw [h1.1]
theorem kvr_mk {F : Hp} {p : (Int ⊕ Str) × D} {kvs : List ((Int ⊕ Str) × D)} {v : V} {r : List (Key × V)} (h : Rep T F p.2 v) (t : KVR T F kvs r) : KVR T F (p :: kvs) ((p.1, v) :: r) := ⟨by simp [t.1], by
  simp only [List.map_cons]
  exact .cons h t.2⟩
theorem kvr_mono {F F' : Hp} {kvs : List ((Int ⊕ Str) × D)} {kws : List (Key × V)} (s : Same F F') (h : KVR T F kvs kws) : KVR T F' kvs kws := ⟨h.1, h.2.mono s⟩
theorem kvr_len {F : Hp} {kvs : List ((Int ⊕ Str) × D)} {kws : List (Key × V)} (h : KVR T F kvs kws) : kws.length = kvs.length := by simpa using congrArg List.length h.1
theorem kv_get {F : Hp} {k : Int ⊕ Str} : ∀ {kvs : List ((Int ⊕ Str) × D)} {kws : List (Key × V)}, KVR T F kvs kws → (kvGet kvs k = none ∧ valV kws k = none) ∨ ∃ d v, kvGet kvs k = some d ∧ valV kws k = some v ∧ Rep T F d v
  | [], kws, h => by
    cases kvr_nil h
    exact .inl ⟨rfl, rfl⟩
  | p :: kvs, kws, h => by
    obtain ⟨v, r, rfl, r1, r2⟩ := kvr_cons h
    unfold kvGet valV
    by_cases e : p.1 = k
    · refine .inr ⟨p.2, v, ?_, ?_, r1⟩
      · simp [List.find?_cons, e]
      · simp [List.find?_cons, e]
    · rcases kv_get (k := k) r2 with ⟨h1, h2⟩ | ⟨d, u, h1, h2, h3⟩
      · unfold kvGet at h1
        unfold valV at h2
        refine .inl ⟨?_, ?_⟩
        · simpa [List.find?_cons, e] using h1
        · simpa [List.find?_cons, e] using h2
      · unfold kvGet at h1
        unfold valV at h2
        refine .inr ⟨d, u, ?_, ?_, h3⟩
        · simpa [List.find?_cons, e] using h1
        · simpa [List.find?_cons, e] using h2
theorem kv_any {F : Hp} {k : Int ⊕ Str} : ∀ {kvs : List ((Int ⊕ Str) × D)} {kws : List (Key × V)}, KVR T F kvs kws → (kws.any fun kv => decide (kv.1 = k)) = kvs.any fun kv => decide (kv.1 = k)
  | [], kws, h => by
    cases kvr_nil h
    rfl
  | p :: kvs, kws, h => by
    obtain ⟨v, r, rfl, r1, r2⟩ := kvr_cons h
    simp only [List.any_cons]
    rw [kv_any r2]
theorem kv_map {F : Hp} {k : Int ⊕ Str} {d : D} {v : V} (rv : Rep T F d v) : ∀ {kvs : List ((Int ⊕ Str) × D)} {kws : List (Key × V)}, KVR T F kvs kws → KVR T F (kvs.map fun kv => if kv.1 = k then (kv.1, d) else kv) (kws.map fun kv => if kv.1 = k then (kv.1, v) else kv)
  | [], kws, h => by
    cases kvr_nil h
    exact ⟨rfl, .nil⟩
  | p :: kvs, kws, h => by
    obtain ⟨u, r, rfl, r1, r2⟩ := kvr_cons h
    have t := kv_map (k := k) rv r2
    simp only [List.map_cons]
    by_cases e : p.1 = k
    · simp only [e, if_true]
      exact kvr_mk (p := (k, d)) rv t
    · simp only [e, if_false]
      exact kvr_mk r1 t
theorem kv_app {F : Hp} {k : Int ⊕ Str} {d : D} {v : V} (rv : Rep T F d v) {kvs : List ((Int ⊕ Str) × D)} {kws : List (Key × V)} (h : KVR T F kvs kws) : KVR T F (kvs ++ [(k, d)]) (kws ++ [(k, v)]) := by
  refine ⟨by simp [h.1], ?_⟩
  rw [List.map_append, List.map_append]
  exact h.2.append (.cons rv .nil)
theorem kv_put {F : Hp} {k : Int ⊕ Str} {d : D} {v : V} (rv : Rep T F d v) {kvs : List ((Int ⊕ Str) × D)} {kws : List (Key × V)} (h : KVR T F kvs kws) : KVR T F (kvPut kvs k d) (putK kws k v) := by
  unfold kvPut putK
  rw [kv_any h]
  split
  · exact kv_map rv h
  · exact kv_app rv h
theorem toK_rep {F : Hp} {y : D} {k : Int ⊕ Str} {v : V} (h : toK y = some k) (r : Rep T F y v) : v = kV k := by
  cases y with
  | int i => cases h; exact rep_int.mp r
  | str i => cases h; exact rep_str.mp r
  | _ => cases h
theorem ofK_rep {F : Hp} {k : Int ⊕ Str} : Rep T F (ofK k) (kV k) := by
  cases k with
  | inl i => exact rep_int.mpr rfl
  | inr i => exact rep_str.mpr rfl
theorem hasD_get {F0 B0 F H : Hp} {A : List Addr} {σ : L2.St} {ε : Env} {i : Nat} (r : RelE T F0 B0 A F H σ ε) (h : hasD ε i = true) : ∃ a kws, σ[i]? = some (some (.ref a)) ∧ H a = some (.dK kws) := by
  unfold hasD at h
  split at h
  · rename_i k xs e
    obtain ⟨a, ho, e1, _, _, _, ha, ro⟩ := r.sl i _ e
    cases ho with
    | dK vs => exact ⟨a, vs, e1, ha⟩
    | _ => exact ro.elim
  · cases h
theorem sO_newD : SO X T W (.Dict [] [] pos) newD := impE pe_dnewK fun σ H Q ⟨F0, B0, A, F, ε, rel, p⟩ => fun q hq => fresh_done (o := .d []) (ho := .dK []) rel hq ⟨rfl, .nil⟩ p
theorem sE_dGet2 {i : Nat} (h : PE X e (tDGet2 (tVar i) (EvP T W fk) (EvP T W fv))) : SE X T W e (dGet2 i fk fv) := impE h fun σ H Q ⟨F0, B0, A, F, ε, rel, p⟩ => by
  unfold dGet2 at p
  split at p
  rotate_left
  · exact p.elim
  rename_i hh
  obtain ⟨a, kws0, ev, hv0⟩ := hasD_get rel hh
  refine ⟨_, ev, a, rfl, .inl ⟨_, .inl hv0⟩, F0, B0, A, F, ε, rel, (post_bind p).imp fun y ε1 F1 H1 s1 rel1 p1 v rv => ⟨F0, B0, A, F1, ε1, rel1, (post_bind p1).imp fun z ε2 F2 H2 s2 rel2 p2 u ru => ?_⟩⟩
  obtain ⟨k, ek, p3⟩ := post_of p2
  split at p3
  · rename_i kk kvs he
    obtain ⟨a', ho, e1, fa, ba, ka, ha, ro⟩ := rel2.sl i _ he
    have q : a = a' := by rw [ev] at e1; cases e1; rfl
    subst q
    cases ho with
    | dK kws =>
      have := toK_rep ek (rv.mono s2)
      subst this
      refine ⟨_, DGet.k ha, ?_⟩
      rcases kv_get (k := k) ro with ⟨h1, h2⟩ | ⟨d, w, h1, h2, h3⟩
      · rw [h2]
        rw [h1] at p3
        exact p3 F2 H2 (.refl _) rel2 u ru
      · rw [h2]
        rw [h1] at p3
        exact p3 F2 H2 (.refl _) rel2 w h3
    | _ => exact ro.elim
  · exact p3.elim
theorem sS_dPut {i : Nat} (h : PS X st (sDPut (tVar i) (EvP T W fk) (EvP T W fv))) : SS X T W st (dPut i fk fv) := impS h fun Dn σ H ⟨F0, B0, A, F, ε, rel, p⟩ =>
  ⟨F0, B0, A, F, ε, rel, (postS_bind p).imp fun v ε1 F1 H1 s1 rel1 p1 vv rv => by
    split at p1
    rotate_left
    · exact p1.elim
    rename_i hh
    obtain ⟨a, kws0, ev, hv0⟩ := hasD_get rel1 hh
    refine ⟨_, ev, F0, B0, A, F1, ε1, rel1, (postS_bind p1).imp fun y ε2 F2 H2 s2 rel2 p2 u ru => ?_⟩
    obtain ⟨k, ek, p3⟩ := postS_of p2
    split at p3
    · rename_i kk kvs he
      split at p3
      · rename_i hl
        obtain ⟨a', ho, e1, fa, ba, ka, ha, ro⟩ := rel2.sl i _ he
        have q : a = a' := by rw [ev] at e1; cases e1; rfl
        subst q
        cases ho with
        | dK kws =>
          have := toK_rep ek ru
          subst this
          refine ⟨a, _, rfl, DPut.k ha (line_lt (by rw [kvr_len ro]; exact hl)), p3 σ F2 _ (.refl _) (rel2.wrOw he ev (ho := .dK (putK kws k vv)) (kv_put (rv.mono s2) ro))⟩
        | _ => exact ro.elim
      · exact p3.elim
    · exact p3.elim⟩

/-! ### for .. in x.items() -/
def IterB (T : Tb) (J : It) (F B : Hp) (items : List D) : Prop := ∀ (i : Nat) F1 H1, Same F F1 → Same F1 H1 → Same B H1 → (items.length ≤ i → J.stop i H1) ∧
  (i < items.length → J.go i H1 ∧ ∀ x H2, J.yld i H1 x H2 → ∃ F2 d, Grow F1 H1 F2 H2 ∧ items[i]? = some d ∧ Rep T F2 d x)
theorem for_core {F0 B0 F1 H1 : Hp} {A : List Addr} {σ : L2.St} {ε1 : Env} {items : List D} {h : FG} {g : TG} {ws : List Nat} {Dn : Ends} {J : It} (gs : GS T g h ws) (rel1 : RelE T F0 B0 A F1 H1 σ ε1) (hJ : IterB T J F1 B0 items) (p1 : PostS T W F0 B0 A F1 (forL h body items ε1) Dn) :
    ∃ Wn : Nat → Nat → L2.St → Hp → Prop, (∃ m, Wn 0 m σ H1) ∧ ∀ i m σ H, Wn i m σ H →
      (J.stop i H ∧ Dn.nx σ H) ∨ (J.go i H ∧ ∃ N : L2.St → Hp → Prop, (∀ σ' H', N σ' H' → ∃ m', m' < m ∧ Wn (i + 1) m' σ' H') ∧ ∀ x H', J.yld i H x H' → g x σ H' fun σ2 H2 => EvS T W body { Dn with nx := N, ct := N, bk := Dn.nx } σ2 H2) := by
  refine ⟨fun i m σ2 H2 => ∃ F2 ε2, Same F1 F2 ∧ RelE T F0 B0 A F2 H2 σ2 ε2 ∧ i ≤ items.length ∧ m = items.length - i ∧ PostS T W F0 B0 A F2 (forL h body (items.drop i) ε2) Dn, ⟨items.length, F1, ε1, .refl _, rel1, Nat.zero_le _, rfl, p1⟩, ?_⟩
  rintro i m σ2 H2 ⟨F2, ε2, s2, rel2, hi, rfl, p2⟩
  obtain ⟨stop, go⟩ := hJ i F2 H2 s2 rel2.fh rel2.bh
  by_cases hlt : i < items.length
  · obtain ⟨g0, yl⟩ := go hlt
    refine .inr ⟨g0, fun σ3 H3 => ∃ F3 ε3, Same F1 F3 ∧ RelE T F0 B0 A F3 H3 σ3 ε3 ∧ i + 1 ≤ items.length ∧ PostS T W F0 B0 A F3 (forL h body (items.drop (i + 1)) ε3) Dn, fun σ' H' ⟨F3, ε3, s3, rel3, hi3, p3⟩ => ⟨items.length - (i + 1), by omega, F3, ε3, s3, rel3, hi3, rfl, p3⟩, fun x H3 y => ?_⟩
    obtain ⟨F3, d, gr, ed, rd⟩ := yl x H3 y
    have ed' : items.drop i = d :: items.drop (i + 1) := by
      rw [List.drop_eq_getElem_cons hlt]
      rw [List.getElem?_eq_getElem hlt] at ed
      rw [Option.some.inj ed]
    rw [ed'] at p2
    unfold forL at p2
    obtain ⟨ε3, e3, p3⟩ := postS_of p2
    refine gs F0 B0 A F3 H3 σ2 ε2 d x ε3 _ (rel2.grow gr) rd e3 fun σ' rel' _ => ⟨F0, B0, A, F3, ε3, rel', ?_⟩
    exact post_loop (PostS.monoF gr.ff p3) fun ε4 σ4 F4 H4 s4 rel4 p4 => ⟨F4, ε4, (s2.trans gr.ff).trans s4, rel4, hlt, p4⟩
  · have e : i = items.length := by omega
    subst e
    rw [List.drop_length] at p2
    exact .inl ⟨stop (Nat.le_refl _), p2 σ2 F2 H2 (.refl _) rel2⟩
/-- what is wanted while the thing at a is locked -/
def lockE (Dn : Ends) (a : Addr) (od : Obj) (u : HO) : Ends := ⟨fun σ' H' => H' a = some (.frz od u) ∧ Dn.nx σ' (upd H' a u), fun v H' => H' a = some (.frz od u) ∧ Dn.rt v (upd H' a u), fun σ' H' => H' a = some (.frz od u) ∧ Dn.bk σ' (upd H' a u), fun σ' H' => H' a = some (.frz od u) ∧ Dn.ct σ' (upd H' a u)⟩
theorem post_lock {F0 B0 F : Hp} {A : List Addr} {m : R Fl} {Dn : Ends} {a : Addr} {od : Obj} {u : HO} (b0 : B0 a = none) (f0 : F0 a = none) (p : PostS T W F0 B0 A F m Dn) : PostS T W F0 (upd B0 a (.frz od u)) A F m (lockE Dn a od u) := by
  cases m with
  | bot => exact p
  | ex c fs ε =>
    intro σ' F' H' cls dx s rel x
    obtain ⟨r1, r2, r3, r4⟩ := rel.unguard b0 f0
    exact p σ' F' H' cls dx s r1 x
  | ok fl ε =>
    intro σ' F' H' s rel
    obtain ⟨r1, r2, r3, r4⟩ := rel.unguard b0 f0
    have p1 := p σ' F' (upd H' a u) s (r1.chg r2 b0 r4)
    cases fl with
    | nx => exact ⟨r3, p1⟩
    | br => exact ⟨r3, p1⟩
    | ct => exact ⟨r3, p1⟩
    | rt d => exact fun v rv => ⟨r3, p1 v rv⟩
    | ro o =>
      intro q ho h1 h2 h3 h4 h5
      have ne : q ≠ a := by
        rintro rfl
        rw [upd_same] at h2
        cases h2
      rw [upd_ne ne] at h2
      exact ⟨r3, p1 q ho h1 h2 (by rw [upd_ne ne]; exact h3) h4 h5⟩
theorem sS_forItems {i : Nat} {iter tg : Expr} {g : TG} {h : FG} {ws : List Nat} {sts : List Stmt} (hp : PassesOwn (model X.prog X.w) X.A X.env X.xe) (hc : X.calm = true) (hi : PI X tg iter (iItems (tVar i))) (hg : PG X tg g) (gs : GS T g h ws) (hb : SSs X T W sts body)
    (hs : ∀ x, foldedSetIterable iter X.env x = pure x := by intro _; rfl) : SS X T W (.For tg iter sts [] pos) (forItems i h body) := impS (ps_lock (ps_for hp hc hi hg hb hs)) fun Dn σ H ⟨F0, B0, A, F, ε, rel, p⟩ => by
  unfold forItems at p
  split at p
  rotate_left
  · exact p.elim
  rename_i kvs he
  obtain ⟨a, ho, e1, fa, ba, _, ha, ro⟩ := rel.sl i _ he
  cases ho with
  | dK kws =>
    refine ⟨a, .dK kws, ha, trivial, fun od => ⟨_, e1, a, od, kws, rfl, upd_same, ?_⟩⟩
    have iε : i < ε.length := lt_of_get he
    have no : ∀ j, ¬ OwnA (ε.set i .no) σ j a := fun j hj => by
      obtain ⟨⟨k, o2, h1⟩, h2⟩ := hj
      by_cases q : j = i
      · subst q
        rw [List.getElem?_set_self iε] at h1
        cases h1
      · rw [List.getElem?_set_ne (Ne.symm q)] at h1
        exact q (rel.nd j i a ⟨⟨_, _, h1⟩, h2⟩ ⟨⟨_, _, he⟩, e1⟩)
    have rel1 := ((rel.setNo' (i := i)).chg (o := .frz od (.dK kws)) fa ba no).guard fa ba upd_same no
    have f0 : F0 a = none := rel.f0.free fa
    refine for_core gs rel1 (fun j F1 H1 s1 s2 s3 => ?_) (post_lock ba f0 p)
    have hd : H1 a = some (.frz od (.dK kws)) := s3 a _ upd_same
    have hl : kws.length = kvs.length := kvr_len ro
    refine ⟨fun hlj => ⟨hd, by rw [hl]; simpa using hlj⟩, fun hlj => ⟨⟨hd, by rw [hl]; simpa using hlj⟩, fun x H2 y => ?_⟩⟩
    obtain ⟨q, k, v, ek, rfl, hq, rfl⟩ := y
    have hlj : j < kvs.length := by simpa using hlj
    have ej : kvs[j]? = some kvs[j] := List.getElem?_eq_getElem hlj
    have k1 : kvs[j].1 = k := by
      have := congrArg (fun l => l[j]?) ro.1
      simp only [List.getElem?_map, ek, ej, Option.map_some] at this
      exact (Option.some.inj this).symm
    obtain ⟨w, ew, rw⟩ := ro.2.get (i := j) (d := kvs[j].2) (by simp [List.getElem?_map, ej])
    have ew2 : w = v := by
      simp only [List.getElem?_map, ek, Option.map_some] at ew
      exact (Option.some.inj ew).symm
    subst ew2
    have sq : Same F1 (upd F1 q (.tup [kV k, w])) := Same.new (s2.free hq)
    refine ⟨_, .tup [ofK kvs[j].1, kvs[j].2], Grow.new (o := .tup [kV k, w]) s2 hq, by simp [List.getElem?_map, ej], rep_tup.mpr ⟨q, _, rfl, upd_same, .cons ?_ (.cons (rw.mono (s1.trans sq)) .nil)⟩⟩
    rw [k1]
    exact ofK_rep
  | _ => exact ro.elim
end
end EV
set_option maxRecDepth 100000
/-! EvG: truth, values of and, or, not; slices; keywords; the end. -/
namespace EV
open PySem L2
section
variable {X : Cx} {T : Tb} {W : WX} {pos p2 : Pos} {a b e : Expr} {fa fb fe : FE} {fr fk : FA} {es : List Expr} {rest : List Expr}
theorem isEmpty_reps {F : Hp} {xs : List D} {vs : List V} (r : Reps T F xs vs) : xs.isEmpty = vs.isEmpty := by
  cases xs with
  | nil => rw [reps_nil.mp r]; rfl
  | cons x xs =>
    obtain ⟨v, us, rfl, _⟩ := reps_cons.mp r
    rfl
theorem tru_rep {K : PySem.W.Frag} {F H : Hp} {d : D} {v : V} {k : Bool} (s : Same F H) (r : Rep T F d v) (h : tru d = some k) : TruV K v H k := by
  cases d with
  | non => cases h; rw [rep_non.mp r]; rfl
  | bl b => cases h; rw [rep_bl.mp r]; rfl
  | int b => cases h; rw [rep_int.mp r]; rfl
  | str b =>
    have h : (if b.length ≤ 16000000 then some ((b.length : Int) != 0) else none) = some k := h
    by_cases hl : b.length ≤ 16000000
    · rw [if_pos hl] at h
      cases h
      rw [rep_str.mp r]
      exact ⟨line_le hl, rfl⟩
    · rw [if_neg hl] at h
      cases h
  | lst b =>
    cases h
    obtain ⟨a, vs, rfl, h1, r1⟩ := rep_lst.mp r
    exact .inl ⟨vs, SqL.of (s _ _ h1), by rw [isEmpty_reps r1]⟩
  | tup b =>
    cases h
    obtain ⟨a, vs, rfl, h1, r1⟩ := rep_tup.mp r
    exact .inr (.inl ⟨vs, SqT.of (s _ _ h1), by rw [isEmpty_reps r1]⟩)
  | ins c b => cases h
  | scr b => cases h
/-- any value as a test -/
theorem sT_tru (ha : SE X T W a fa) (he : ∀ whole, isTrue a X.env whole = (do let v ← whole; standAt a.pos; holding [v] (truthy v)) := by intro _; rfl) : ST X T W a (tT fa) := impT (pt_truth ha he) fun σ H Q ⟨F0, B0, A, F, ε, rel, p⟩ =>
  ⟨F0, B0, A, F, ε, rel, (post_bind p).imp fun x ε1 F1 H1 s1 rel1 p1 v rv => by
    obtain ⟨k, ek, p2⟩ := post_of p1
    exact ⟨k, tru_rep rel1.fh rv ek, p2 F1 H1 (.refl _) rel1⟩⟩
theorem sE_one {op : BoolOp} (h : SE X T W a fa) : SE X T W (.BoolOp op [a] pos) fa := impE (pe_one h) fun _ _ _ q => q
theorem sE_or (ha : SE X T W a fa) (hb : SE X T W (.BoolOp .Or (b :: rest) pos) fb) : SE X T W (.BoolOp .Or (a :: b :: rest) pos) (eOr fa fb) := impE (pe_orT ha hb) fun σ H Q ⟨F0, B0, A, F, ε, rel, p⟩ =>
  ⟨F0, B0, A, F, ε, rel, (post_bind p).imp fun x ε1 F1 H1 s1 rel1 p1 v rv => by
    obtain ⟨k, ek, p2⟩ := post_of p1
    refine ⟨k, tru_rep rel1.fh rv ek, ?_⟩
    cases k with
    | true => exact iteT (p2 F1 H1 (.refl _) rel1 v rv)
    | false => exact iteF ⟨F0, B0, A, F1, ε1, rel1, p2⟩⟩
theorem sE_and (ha : SE X T W a fa) (hb : SE X T W (.BoolOp .And (b :: rest) pos) fb) : SE X T W (.BoolOp .And (a :: b :: rest) pos) (eAnd fa fb) := impE (pe_andT ha hb) fun σ H Q ⟨F0, B0, A, F, ε, rel, p⟩ =>
  ⟨F0, B0, A, F, ε, rel, (post_bind p).imp fun x ε1 F1 H1 s1 rel1 p1 v rv => by
    obtain ⟨k, ek, p2⟩ := post_of p1
    refine ⟨k, tru_rep rel1.fh rv ek, ?_⟩
    cases k with
    | true => exact iteT ⟨F0, B0, A, F1, ε1, rel1, p2⟩
    | false => exact iteF (p2 F1 H1 (.refl _) rel1 v rv)⟩
theorem sE_not (ha : SE X T W a fa) : SE X T W (.UnaryOp .Not a pos) (eNot fa) := impE (pe_notT ha) fun σ H Q ⟨F0, B0, A, F, ε, rel, p⟩ =>
  ⟨F0, B0, A, F, ε, rel, (post_bind p).imp fun x ε1 F1 H1 s1 rel1 p1 v rv => by
    obtain ⟨k, ek, p2⟩ := post_of p1
    exact ⟨k, tru_rep rel1.fh rv ek, p2 F1 H1 (.refl _) rel1 _ (rep_bl.mpr rfl)⟩⟩
theorem unS_bits : UnS T (fun x H Q => ∃ i, x = .int i ∧ Q (.int (Builtin.Int.intBits i : Nat)) H) bBits := by
  intro F H x z v Q rx s e k
  unfold bBits at e
  split at e
  · cases e
    exact ⟨_, rep_int.mp rx, k _ F H (Grow.refl s) (rep_int.mpr rfl)⟩
  · cases e
theorem sE_bits (h : PE X e (tBits (EvP T W fa))) : SE X T W e (un bBits fa) := impE h fun σ H Q ⟨F0, B0, A, F, ε, rel, p⟩ =>
  ⟨F0, B0, A, F, ε, rel, (post_bind p).imp fun x ε1 F1 H1 s1 rel1 p1 v rv => by
    obtain ⟨z, e, hz⟩ := post_of p1
    exact unS_bits F1 H1 x z v Q rv rel1.fh e fun w F' H' gr rw => hz F' H' gr.ff (rel1.grow gr) w rw⟩
/-- len(x) at a name: lists, tuples, texts; dicts -/
theorem call_lenA : CallR X (.builtin "len") (fun xs H Q => (∃ x n, xs = [x] ∧ LenV X.K x H n ∧ Q (.int n) H) ∨ (∃ a kvs, xs = [V.ref a] ∧ H a = some (.dK kvs) ∧ Q (.int kvs.length) H)) := CallR.or call_len call_lenD
theorem sE_lenN {i : Nat} (hK : T.K = X.K) (h : PE X e (tCB (fun xs H Q => (∃ x n, xs = [x] ∧ LenV X.K x H n ∧ Q (.int n) H) ∨ (∃ a kvs, xs = [V.ref a] ∧ H a = some (.dK kvs) ∧ Q (.int kvs.length) H)) (tCons (tVar i) tNil))) : SE X T W e (lenN i) := impE h fun σ H Q ⟨F0, B0, A, F, ε, rel, p⟩ => by
  unfold lenN at p
  simp only [len_eq] at p
  split at p
  · rename_i kk xs he
    obtain ⟨a', ho, e1, fa, ba, ka, ha, ro⟩ := rel.sl i _ he
    cases ho with
    | lst vs => exact ⟨_, e1, .inl ⟨_, xs.length, rfl, .inl ⟨vs, SqL.of ha, Reps.length ro⟩, p F H (.refl _) rel _ (rep_int.mpr rfl)⟩⟩
    | _ => exact ro.elim
  · rename_i kk kvs he
    obtain ⟨a', ho, e1, fa, ba, ka, ha, ro⟩ := rel.sl i _ he
    cases ho with
    | dK kws =>
      refine ⟨_, e1, .inr ⟨_, kws, rfl, ha, ?_⟩⟩
      rw [kvr_len ro]
      exact p F H (.refl _) rel _ (rep_int.mpr rfl)
    | _ => exact ro.elim
  · rename_i d he
    obtain ⟨z, ez, p2⟩ := post_of p
    obtain ⟨u, e1, r⟩ := rel.sl i _ he
    exact ⟨u, e1, .inl (caS_len hK F H [d] z [u] Q (.cons r .nil) rel.fh ez fun w F' H' gr rw => p2 F' H' gr.ff (rel.grow gr) w rw)⟩
  · exact p.elim

/-! ### slices -/
def EvPo (T : Tb) (W : WX) (f : FP) : TO := fun σ H Q => ∃ F0 B0 A F ε, RelE T F0 B0 A F H σ ε ∧ Post T W F0 B0 A F σ (f ε) fun o _ _ H' => Q o H'
theorem impO {eo : Option Expr} {t t' : TO} (h : PO X eo t) (i : ∀ σ H Q, t' σ H Q → t σ H Q) : PO X eo t' := ⟨fun pins s σ H Q I x => h.run pins s σ H Q I (i _ _ _ x)⟩
theorem sP_no : PO X none (EvPo T W pNo) := impO po_none fun σ H Q ⟨F0, B0, A, F, ε, rel, p⟩ => p F H (.refl _) rel
theorem sP_so (h : SE X T W e fe) : PO X (some e) (EvPo T W (pSo fe)) := impO (po_some h) fun σ H Q ⟨F0, B0, A, F, ε, rel, p⟩ =>
  ⟨F0, B0, A, F, ε, rel, (post_bind p).imp fun x ε1 F1 H1 s1 rel1 p1 v rv => by
    cases x with
    | int i => exact ⟨i, rep_int.mp rv, p1 F1 H1 (.refl _) rel1⟩
    | _ => exact p1.elim⟩
theorem sIx_eq (n d : Nat) (o : Option Int) (hd : o = none ∨ True) : HT.sIx n d o = slIx n d o := by
  cases o with
  | none => rfl
  | some v =>
    have h := HT.clip_eq v n d
    unfold slIx
    show HT.sIx n d (some v) = if v < 0 then (v + n).toNat else min v.toNat n
    split
    · rename_i hv
      rw [if_pos hv] at h
      omega
    · rename_i hv
      rw [if_neg hv] at h
      omega
theorem reps_drop {F : Hp} : ∀ {xs : List D} {vs : List V} (n : Nat), Reps T F xs vs → Reps T F (xs.drop n) (vs.drop n)
  | xs, vs, 0, r => r
  | [], vs, n + 1, r => by rw [reps_nil.mp r]; exact .nil
  | x :: xs, vs, n + 1, r => by
    obtain ⟨v, us, rfl, _, r2⟩ := reps_cons.mp r
    exact reps_drop n r2
theorem reps_take {F : Hp} : ∀ {xs : List D} {vs : List V} (n : Nat), Reps T F xs vs → Reps T F (xs.take n) (vs.take n)
  | xs, vs, 0, r => .nil
  | [], vs, n + 1, r => by rw [reps_nil.mp r]; exact .nil
  | x :: xs, vs, n + 1, r => by
    obtain ⟨v, us, rfl, r1, r2⟩ := reps_cons.mp r
    exact .cons r1 (reps_take n r2)
theorem cut_reps {F : Hp} {xs : List D} {vs : List V} {lo hi : Option Int} (r : Reps T F xs vs) : Reps T F (cutN xs lo hi) (cutV vs lo hi) := by
  unfold cutN cutV
  rw [sIx_eq _ _ _ (.inr trivial), sIx_eq _ _ _ (.inr trivial), r.length]
  exact reps_take _ (reps_drop _ r)
theorem sE_sl {lo hi : Option Expr} {fl fh : FP} (he : SE X T W e fe) (hl : PO X lo (EvPo T W fl)) (hh : PO X hi (EvPo T W fh)) : SE X T W (.Subscript e (.Slice lo hi none p2) pos) (slE fe fl fh) :=
  impE (pe_slice (sl_list.or sl_tup) he hl hh) fun σ H Q ⟨F0, B0, A, F, ε, rel, p⟩ =>
  ⟨F0, B0, A, F, ε, rel, (post_bind p).imp fun x ε1 F1 H1 s1 rel1 p1 v rv => ⟨F0, B0, A, F1, ε1, rel1, (post_bind p1).imp fun l ε2 F2 H2 s2 rel2 p2 => ⟨F0, B0, A, F2, ε2, rel2, (post_bind p2).imp fun h ε3 F3 H3 s3 rel3 p3 => by
    obtain ⟨z, ez, p4⟩ := post_of p3
    have rv3 := (rv.mono s2).mono s3
    cases x with
    | lst xs =>
      cases ez
      obtain ⟨a, vs, rfl, h1, r1⟩ := rep_lst.mp rv3
      refine .inl ⟨a, vs, rfl, SqL.of (rel3.fh _ _ h1), fun q hq => ?_⟩
      obtain ⟨g, r⟩ := new_lst rel3.fh hq (cut_reps (lo := l) (hi := h) r1)
      exact p4 _ _ g.ff (rel3.grow g) _ r
    | tup xs =>
      obtain ⟨a, vs, rfl, h1, r1⟩ := rep_tup.mp rv3
      have ez : (if slIx xs.length 0 l = 0 ∧ slIx xs.length xs.length h = xs.length then none else some (.tup (cutN xs l h))) = some z := ez
      by_cases hw : slIx xs.length 0 l = 0 ∧ slIx xs.length xs.length h = xs.length
      · rw [if_pos hw] at ez
        cases ez
      · rw [if_neg hw] at ez
        cases ez
        refine .inr ⟨a, vs, rfl, SqT.of (rel3.fh _ _ h1), ?_, fun q hq => ?_⟩
        · rw [sIx_eq _ _ _ (.inr trivial), sIx_eq _ _ _ (.inr trivial), ← r1.length]
          exact hw
        · obtain ⟨g, r⟩ := new_tup rel3.fh hq (cut_reps (lo := l) (hi := h) r1)
          exact p4 _ _ g.ff (rel3.grow g) _ r
    | _ => cases ez⟩⟩⟩
theorem sO_sl {lo hi : Option Expr} {fl fh : FP} (he : SE X T W e fe) (hl : PO X lo (EvPo T W fl)) (hh : PO X hi (EvPo T W fh)) : SO X T W (.Subscript e (.Slice lo hi none p2) pos) (slO fe fl fh) :=
  impE (pe_slice sl_list he hl hh) fun σ H Q ⟨F0, B0, A, F, ε, rel, p⟩ =>
  ⟨F0, B0, A, F, ε, rel, (post_bind p).imp fun x ε1 F1 H1 s1 rel1 p1 v rv => ⟨F0, B0, A, F1, ε1, rel1, (post_bind p1).imp fun l ε2 F2 H2 s2 rel2 p2 => ⟨F0, B0, A, F2, ε2, rel2, (post_bind p2).imp fun h ε3 F3 H3 s3 rel3 p3 => by
    have rv3 := (rv.mono s2).mono s3
    cases x with
    | lst xs =>
      obtain ⟨a, vs, rfl, h1, r1⟩ := rep_lst.mp rv3
      exact ⟨a, vs, rfl, SqL.of (rel3.fh _ _ h1), fun q hq => fresh_done (o := .l (cutN xs l h)) (ho := .lst _) rel3 hq (cut_reps r1) p3⟩
    | _ => exact p3.elim⟩⟩⟩

/-! ### keywords -/
theorem sK_nil : PK X [] (EvA T W aNil) := ⟨fun pos pins s σ H Q I ⟨F0, B0, A, F, ε, rel, p⟩ => pk_nil.run pos pins s σ H Q I (p F H (.refl _) rel [] .nil)⟩
theorem sK_cons {kws : List Keyword} {nm : Option Str} {kpos : Pos} (ha : SE X T W e fe) (hr : PK X kws (EvA T W fr)) : PK X (⟨nm, e, kpos⟩ :: kws) (EvA T W (aCons fe fr)) := ⟨fun pos pins s σ H Q I ⟨F0, B0, A, F, ε, rel, p⟩ => (pk_cons ha hr).run pos pins s σ H Q I
  ⟨F0, B0, A, F, ε, rel, (post_bind p).imp fun x ε1 F1 H1 s1 rel1 p1 v rv => ⟨F0, B0, A, F1, ε1, rel1, (post_bind p1).imp fun xs ε2 F2 H2 s2 rel2 p2 vs rvs => p2 F2 H2 (.refl _) rel2 (v :: vs) (.cons (rv.mono s2) rvs)⟩⟩⟩
/-- a def called with keywords alone: f(k = e, ..), the keywords in the parameters' order -/
theorem sE_callK0 {E : XK} {m : List D → FR} {x : Str} {k : Nat} {ps : List Str} {p : Pos} {kws : List Keyword} (h0 : ∃ (f : Addr) (fd : FuncData), X.mg x = some (.ref f) ∧ PySem.W.keepIn X.K (.ref f) = true ∧ FnOk X.prog X.w X.K X.mg X.base (L2.CX X.prog X.w) k f fd ps (spM T ps.length m) ∧ KBn X.K fd ps 0 ps (fun _ ws => ws) (fun _ zs => zs))
    (hnp : ∀ ds, ds.length ≠ ps.length → m ds = .bot) (hr : Room k X.A) (hg : Gl X x) (tk : Takes X (WK E)) (hk : PK X kws (EvA T (WK E) fk))
    (hall : (backToKw pos (keywordEach kws X.env)).all (·.1.isSome) = true := by rfl) (hks : (backToKw pos (keywordEach kws X.env)).filterMap (·.1) = ps := by rfl) (hdb : (x == ("__debug__" : Str)) = false := by decide)
    (hpl : ((backTo pos (starEach [] X.env)).any (·.1) || (backToKw pos (keywordEach kws X.env)).any (·.1.isNone)) = false := by rfl) :
    SE X T (WK E) (.Call (.Name x p) [] kws pos) (EV.call m fk) := by
  obtain ⟨f, fd, h1, h2, h3, h4⟩ := h0
  refine ⟨fun pins s σ H Q I ev => ?_⟩
  have ev' := call_ev (np := ps.length) ev hnp
  refine wpAny_Call_Name_kw (ld_glob I hg h1 ?_ hdb)
  refine PySem.W.callWith_KW0 (h₀ := X.base) I.ok.mod.kin h2 hall (thn (hk.run pos pins s σ H _ I ev') fun ws s2 ⟨zs, H2, I2, rz, q2⟩ => ⟨I2.kIn, ?_⟩) hpl
  rw [hks]
  have q3 : spM T ps.length m (zs ++ []) H2 Q (WE (WK E) σ) := q2
  rw [List.append_nil] at q3
  exact run_fnN (us := []) (vs := []) h3 hr h4 (passK tk) I2 .nil rz rfl q3.1 q3
end
/-! ### the end -/
/-- the law's promise -/
theorem law_sp {T : Tb} {K : PySem.W.Frag} {m : List D → FR} {H : Hp} {a : Addr} {ns : List Int} (hK : T.K = K) (hS : SqL K H a (ns.map V.int)) (hm : m [.scr ns] = .ret (.bl true)) : spM T 1 m [.ref a] H (fun v _ => v = .bl true) fun _ _ _ => False := by
  refine ⟨rfl, H, [.scr ns], .refl _, .cons (rep_scr.mpr ⟨a, rfl, by rw [hK]; exact hS⟩) .nil, ?_⟩
  rw [hm]
  exact fun v F' H' _ r => rep_bl.mp r
theorem noCX {P : Program} {w : World} (H : Hp) (s : Shared) (e : Value) (s' : Shared) (h : L2.CX P w [] H s (fun _ _ _ => False) e s') : False := by
  obtain ⟨_, _, _, _, _, _, _, _, _, _, _, _, z⟩ := h
  exact z
end EV
set_option maxRecDepth 100000
/-! EvH: what the printed walks name besides. -/
namespace EV
open PySem L2
theorem un65 {k : Nat} {A : Around} (hr : Room k A) (h : 1 ≤ k) : A.units + 65 < cLine := by
  have := hr.un
  omega
/-- return x at a name: its own list moves out, a shared value is told -/
def retNm (i : Nat) : FS := fun ε => match ε[i]? with
  | some (.sh d) => .ok (.rt d) ε
  | some (.ow none o) => .ok (.ro o) (ε.set i .no)
  | _ => .bot
def dAddI : D → D → Option D
  | .int i, .int j => some (.int (i + j))
  | _, _ => none
def dMulI : D → D → Option D
  | .int i, .int j => if wide i j = true then some (.int (i * j)) else none
  | _, _ => none
section
variable {X : Cx} {T : Tb} {W : WX} {pos : Pos} {e : Expr}
theorem sS_retNm {i : Nat} (h : PE X e (tVar i)) : SS X T W (.Return (some e) pos) (retNm i) := impS (ps_ret h) fun Dn σ H ⟨F0, B0, A, F, ε, rel, p⟩ => by
  unfold retNm at p
  split at p
  · rename_i d he
    obtain ⟨u, e1, r⟩ := rel.sl i _ he
    exact ⟨u, e1, p σ F H (.refl _) rel u r⟩
  · rename_i o he
    obtain ⟨a, ho, e1, fa, ba, _, ha, ro⟩ := rel.sl i _ he
    refine ⟨_, e1, p σ F H (.refl _) rel.setNo' a ho fa ba ha ro fun j hj => ?_⟩
    obtain ⟨⟨k, o2, h1⟩, h2⟩ := hj
    have iε : i < ε.length := lt_of_get he
    by_cases q : j = i
    · subst q
      rw [List.getElem?_set_self iε] at h1
      cases h1
    · rw [List.getElem?_set_ne (Ne.symm q)] at h1
      exact q (rel.nd j i a ⟨⟨_, _, h1⟩, h2⟩ ⟨⟨_, _, he⟩, e1⟩)
  · exact p.elim
theorem sT_st : ST X T W e (EV.tB stE) := ⟨fun _ _ _ _ _ _ ⟨_, _, _, _, _, _, p⟩ => p.elim⟩
theorem sO_st : SO X T W e (fun _ => .bot) := ⟨fun _ _ _ _ _ _ ⟨_, _, _, _, _, _, p⟩ => p.elim⟩
theorem sS_doc {x j pos'} : SS X T W (.Expr (.Constant (.str x) j pos) pos') sNx := impS ps_doc fun Dn σ H ⟨F0, B0, A, F, ε, rel, p⟩ => p σ F H (.refl _) rel
theorem opS_addI : OpS T (rI0 fun i j => .int (i + j)) dAddI := opS_I0 (h := fun i j => .int (i + j)) (fun x y z e => by
  unfold dAddI at e
  split at e
  · cases e; exact ⟨_, _, rfl, rfl, rfl⟩
  · cases e) fun F i j => rep_int.mpr rfl
theorem iop_mulA : OpR X (inplaceOp .Mult) (rI CMulX fun i j => .int (i * j)) := opI fun _ _ _ _ _ _ _ hc q => PyProof.Rows.imul_int q hc.ok
theorem opS_mulI : OpS T (rI CMulX fun i j => .int (i * j)) dMulI := opS_I (h := fun i j => .int (i * j)) (fun x y z e => by
  unfold dMulI at e
  split at e
  · rename_i i j
    split at e
    · rename_i h
      cases e
      refine ⟨i, j, rfl, rfl, ?_, rfl⟩
      have h' : bits i + bits j ≤ 134217728 := by simpa [wide] using h
      have h1 := intBits_le i
      have h2 := intBits_le j
      unfold CMulX
      omega
    · cases e
  · cases e) fun F i j => rep_int.mpr rfl
end
/-- a def with defaults, each argument given -/
structure FunB (K : PySem.W.Frag) (x qual : Str) (st : Stmt) (f : Addr) (fd : FuncData) (ps : List Str) : Prop where
  ex : ∃ (oc : Value) (od : Option Addr) (dV kV doc pm : Value) (an : Option Addr) (cdv ct : Value) (osl : Array (Option Value)),
    fd = PySem.W.fnOf x qual (defArgs st) (defBody st) (defScope st) dV kV doc pm an cdv ct ∧ K.lookup f = some ⟨oc, od, .func fd, osl⟩ ∧ PySem.W.codeIn K cdv qual = true
  bd : Binds K fd ps []
theorem fnQ_okB {P : Program} {w : World} {K : PySem.W.Frag} {mg : Str → Option Value} {base : Heap} {T : Tb} {x qual : Str} {st : Stmt} {f : Addr} {fd : FuncData} {N ps : List Str} {k n : Nat} {g : FS} (F : FunB K x qual st f fd ps) (S : FnScope N ps (defScope st)) (hn : N.length = n) (hle : ps.length ≤ n)
    (hb : ∀ (cdv : Value) (A : Around) (outer : List PySem.Env) (s : Shared) (H : Hp) (E : XK), Room k (A.deeper (PyProof.Rows.envOfC qual (defScope st) s.heap.objs.size f cdv)) → SSs (cxOf (L2.CX P w) P w K mg base N qual (defScope st) f cdv A outer s H E) T (WK E) (defBody st) g) :
    FnOk P w K mg base (L2.CX P w) (k + 1) f fd ps (spQ T ps.length (fnQ ps.length n g)) := by
  obtain ⟨oc, od, dV, kV, doc, pm, an, cdv, ct, osl, rfl, lk, hcd⟩ := F.ex
  exact fn_of lk hcd S (fun vs H Q E h => h.1) fun A outer s H vs Q E hr h => ⟨_, hb cdv A outer s H E hr, fnQ_end hn h hle⟩
end EV
set_option maxRecDepth 100000
/-! EvL: plain lemmas: what the combinators give on data that is known in part. -/
namespace EV
open PySem
@[simp] theorem bind_ok {α β : Type} {a : α} {e : Env} {k : α → Env → R β} : (R.ok a e).bind k = k a e := rfl
@[simp] theorem bindB_ok' {α β : Type} {a : α} {e : Env} {k : α → Env → R β} : (R.ok a e).bindB k = k a e := rfl
@[simp] theorem bind_bot {α β : Type} {k : α → Env → R β} : (R.bot : R α).bind k = .bot := rfl
@[simp] theorem bindB_bot {α β : Type} {k : α → Env → R β} : (R.bot : R α).bindB k = .bot := rfl
@[simp] theorem of_some {α β : Type} {a : α} {k : α → R β} : R.of (some a) k = k a := rfl
@[simp] theorem of_none {α β : Type} {k : α → R β} : R.of (none : Option α) k = .bot := rfl
@[simp] theorem dEq_int (i j : Int) : dEq (.int i) (.int j) = some (.bl (i == j)) := rfl
@[simp] theorem dNe_int (i j : Int) : dNe (.int i) (.int j) = some (.bl (!(i == j))) := rfl
@[simp] theorem toP_int (i : Int) : toP (.int i) = .int i := rfl
theorem getN_nat {α : Type} {xs : List α} {n : Nat} : getN xs (n : Int) = xs[n]? := by
  rw [getN_def, if_pos (by omega)]
  rfl
theorem bits_le {i : Int} {n : Nat} (h : i.natAbs < 2 ^ n) (hn : 0 < n) : bits i ≤ n := by
  unfold bits
  by_cases hz : i.natAbs = 0
  · rw [hz, Nat.log2_zero]
    omega
  · have := (Nat.log2_lt hz).mpr h
    omega
theorem wide_of {i j : Int} (h : bits i + bits j ≤ 134217728) : wide i j = true := by
  unfold wide
  simpa using h
theorem seq_assoc (a b c : FS) : EV.seq (EV.seq a b) c = EV.seq a (EV.seq b c) := by
  funext ε
  unfold EV.seq
  cases h : a ε with
  | bot => rfl
  | ex c fs e => rfl
  | ok fl e => cases fl <;> rfl
theorem seq_nx {a b : FS} {ε ε' : Env} (h : a ε = .ok .nx ε') : EV.seq a b ε = b ε' := by
  unfold EV.seq
  rw [h]
  rfl
theorem fmod_lt {i j : Int} (h : 0 < j) : 0 ≤ i.fmod j ∧ i.fmod j < j := by
  rw [Int.fmod_eq_emod_of_nonneg _ (by omega)]
  exact ⟨Int.emod_nonneg _ (by omega), Int.emod_lt_of_pos _ h⟩
theorem bits_small {i : Int} {n : Nat} (h : i.natAbs < 2 ^ n) : bits i ≤ n + 1 := by
  unfold bits
  by_cases hz : i.natAbs = 0
  · rw [hz, Nat.log2_zero]
    omega
  · have := (Nat.log2_lt hz).mpr h
    omega
theorem lt_bits (i : Int) : i.natAbs < 2 ^ bits i := by
  unfold bits
  exact Nat.lt_log2_self
theorem bits_mul (i j : Int) : bits (i * j) ≤ bits i + bits j := by
  have h : (i * j).natAbs < 2 ^ (bits i + bits j) := by
    rw [Int.natAbs_mul, Nat.pow_add]
    exact Nat.mul_lt_mul'' (lt_bits i) (lt_bits j)
  have h1 : 0 < bits i := by unfold bits; omega
  exact bits_le h (by omega)
theorem dPow_int (i j : Int) : dPow (.int i) (.int j) = if 0 ≤ j ∧ (bits i : Int) * j ≤ 2 ^ 27 then some (.int (i ^ j.toNat)) else none := rfl
theorem dMul_int (i j : Int) : dMul (.int i) (.int j) = if wide i j = true then some (.int (i * j)) else none := rfl
theorem mul_ok {i j : Int} (h : bits i + bits j ≤ 134217728) : dMul (.int i) (.int j) = some (.int (i * j)) := by
  rw [dMul_int, if_pos (wide_of h)]
theorem fnQ_ret {np n : Nat} {g : FS} {o : O} {ds : List D} {d : D} {ε : Env} (hl : ds.length + 1 = np) (h : g (.ow (some 0) o :: start (n - 1) ds) = .ok (.rt d) ε) : fnQ np n g o ds = outQ d ε := by
  unfold fnQ
  rw [if_pos hl, h]
theorem fn_ret {np n : Nat} {g : FS} {ds : List D} {d : D} {ε : Env} (hl : ds.length = np) (h : g (start n ds) = .ok (.rt d) ε) : fn np n g ds = .ret d := by
  unfold fn
  rw [if_pos hl, h]
theorem fn_rto {np n : Nat} {g : FS} {ds : List D} {o : O} {ε : Env} (hl : ds.length = np) (h : g (start n ds) = .ok (.ro o) ε) : fn np n g ds = .rto o := by
  unfold fn
  rw [if_pos hl, h]
theorem lcL_map {own : List Nat} {h : FG} {tt : FT} {fe : FE} {f : D → D} {ε : Env} : ∀ {items : List D}, (∀ x ∈ items, ∃ ε1 ε2 ε3, h x ε = some ε1 ∧ tt ε1 = .ok true ε2 ∧ fe ε2 = .ok (f x) ε3 ∧ wipeE ε3 own = ε) → lcL own h tt fe items ε = .ok (items.map f) ε
  | [], _ => rfl
  | x :: items, hx => by
    obtain ⟨ε1, ε2, ε3, e1, e2, e3, e4⟩ := hx x (by simp)
    unfold lcL
    rw [e1, of_some, e2, bindB_ok', if_pos rfl, e3, bindB_ok', e4, lcL_map fun y hy => hx y (List.mem_cons_of_mem _ hy)]
    rfl
theorem mem_rngL {x : D} : ∀ {n : Nat} {lo : Int}, x ∈ rngL lo n → ∃ i : Nat, i < n ∧ x = .int (lo + i)
  | 0, lo, h => by simp [rngL] at h
  | n + 1, lo, h => by
    simp only [rngL, List.mem_cons] at h
    rcases h with rfl | h
    · exact ⟨0, by omega, by simp⟩
    · obtain ⟨i, hi, rfl⟩ := mem_rngL h
      exact ⟨i + 1, by omega, by congr 1; omega⟩
def onI (f : Int → D) : D → D
  | .int i => f i
  | _ => .non
theorem line_ok {n : Nat} (h : n ≤ 1000000) : n ≤ line := Nat.le_trans h (by decide +kernel)
theorem line_lt' {n : Nat} (h : n ≤ 1000000) : n < line := Nat.lt_of_le_of_lt h (by decide +kernel)
theorem lstO_ok {fr : FA} {ε ε' : Env} {xs : List D} (h : fr ε = .ok xs ε') (hl : xs.length ≤ 1000000) : lstO fr ε = .ok (.l xs) ε' := by
  unfold lstO
  rw [h, bind_ok, if_pos (line_ok hl)]
theorem tupE_ok {fr : FA} {ε ε' : Env} {xs : List D} (h : fr ε = .ok xs ε') (hl : xs.length ≤ 1000000) : tupE fr ε = .ok (.tup xs) ε' := by
  unfold tupE
  rw [h, bind_ok, if_pos (line_ok hl)]
theorem lc_ok {own : List Nat} {fi : FA} {h : FG} {tt : FT} {fe : FE} {ε ε1 ε2 : Env} {items ys : List D} (hi : fi ε = .ok items ε1) (hl : items.length ≤ 1000000) (hb : lcL own h tt fe items (wipeE ε1 own) = .ok ys ε2) : EV.lc own fi h tt fe ε = .ok (.l ys) (backE ε1 ε2 own) := by
  unfold EV.lc
  rw [hi, bind_ok, if_pos (line_lt' hl), hb]
  rfl
theorem small_ok {i : Int} (h0 : -1000000000 ≤ i) (h1 : i ≤ 1000000000) : small i = true := by
  unfold small
  rw [decide_eq_true (Int.le_trans (by decide) h0), decide_eq_true (Int.lt_of_le_of_lt h1 (by decide))]
  rfl
theorem rng1_ok {fr : FA} {ε ε' : Env} {j : Int} (h : fr ε = .ok [.int j] ε') (h0 : -1000000000 ≤ j) (h1 : j ≤ 1000000000) : EV.iRng1 fr ε = .ok (rngL 0 j.toNat) ε' := by
  unfold EV.iRng1
  rw [h, bind_ok]
  show (if small j = true then R.ok (rngL 0 j.toNat) ε' else R.bot) = _
  rw [if_pos (small_ok h0 h1)]
theorem rng2_ok {fr : FA} {ε ε' : Env} {i j : Int} (h : fr ε = .ok [.int i, .int j] ε') (i0 : -1000000000 ≤ i) (i1 : i ≤ 1000000000) (h0 : -1000000000 ≤ j) (h1 : j ≤ 1000000000) : EV.iRng2 fr ε = .ok (rngL i (j - i).toNat) ε' := by
  unfold EV.iRng2
  rw [h, bind_ok]
  show (if small i = true ∧ small j = true then R.ok (rngL i (j - i).toNat) ε' else R.bot) = _
  rw [if_pos ⟨small_ok i0 i1, small_ok h0 h1⟩]
theorem rngL_map {f : Int → D} : ∀ (n : Nat) (lo : Int), (rngL lo n).map (onI f) = (List.range n).map fun i : Nat => f (lo + i)
  | 0, lo => rfl
  | n + 1, lo => by
    rw [List.range_succ_eq_map]
    simp only [rngL, List.map_cons, List.map_map, onI]
    rw [rngL_map n (lo + 1)]
    simp only [Int.natCast_zero, Int.add_zero, List.cons.injEq, true_and]
    apply List.map_congr_left
    intro i _
    simp only [Function.comp]
    congr 1
    omega
theorem range_get {ns : List Int} : (List.range ns.length).map (fun i : Nat => D.int ((ns[i]?).getD 0)) = ns.map D.int := by
  apply List.ext_getElem?
  intro i
  simp only [List.getElem?_map]
  by_cases h : i < ns.length
  · rw [List.getElem?_range h]
    simp [h]
  · rw [List.getElem?_eq_none (by simpa using h), List.getElem?_eq_none (by omega)]
    rfl
end EV
set_option maxRecDepth 100000
/-! EvE: the facts that the head tells, put together. -/
namespace EV
open PySem L2
/-- what the head tells of an own class -/
structure C0 (K : PySem.W.Frag) (C : Addr) : Prop where
  pg : PySem.W.plainGet K C Str.empty = true
  hd : PySem.W.hasDictIn K C = true
  po : PySem.W.plainOver K C = true
  sa : PySem.W.findIn K (.ref C) "__setattr__" = some (some (.builtin "object.__setattr__"))
  ha : PySem.W.findIn K (.ref C) "__class__" = some (some (.builtin "object.__class__"))
  hn : PySem.W.specialIn K (.builtin "object.__class__") "__get__" = some (some (.builtin "getset_descriptor.__get__"))
  htk : PySem.W.takesIn K (.builtin "object.__class__") = some true
  hm : PySem.W.mroIn K C (.type "object") = some true
  cd : PySem.W.isClsIn K C = true
  ty : PySem.W.typeIn K (.ref C) = some (.type "type")
  s1 : PySem.W.subIn K (.ref C) (.type "int") = some false
  s2 : PySem.W.subIn K (.ref C) (.type "bool") = some false
  s3 : PySem.W.subIn K (.ref C) (.type "str") = some false
  s4 : PySem.W.subIn K (.ref C) (.type "list") = some false
  s5 : PySem.W.subIn K (.ref C) (.type "tuple") = some false
  b1 : PySem.W.subIn K (.type "NoneType") (.ref C) = some false
  b2 : PySem.W.subIn K (.type "bool") (.ref C) = some false
  b3 : PySem.W.subIn K (.type "int") (.ref C) = some false
  b4 : PySem.W.subIn K (.type "str") (.ref C) = some false
  b5 : PySem.W.subIn K (.type "list") (.ref C) = some false
  b6 : PySem.W.subIn K (.type "tuple") (.ref C) = some false
section
variable {K : PySem.W.Frag} {C C' : Addr}
theorem C0.cls (h : C0 K C) : Cls K C := ⟨h.pg, h.hd, h.po, h.sa⟩
theorem kit_toTy {T : String} (hs : PySem.W.subIn K (.ref C) (.type T) = some false) (hm : PySem.W.kitMeta T = true) : PySem.W.kitOne K (.ref C) (.type T) = some false := by
  unfold PySem.W.kitOne
  rw [if_neg (by intro z; cases z)]
  show (if PySem.W.kitMeta T = true then PySem.W.subIn K (.ref C) (.type T) else none) = some false
  rw [if_pos hm, hs]
theorem clsIn_of (h : C0 K C) : (PySem.W.clsIn K C).isSome = true := by
  have := h.cd
  unfold PySem.W.isClsIn at this
  first
    | exact this
    | simpa using this
theorem kit_toC {t : Value} (h : C0 K C) (hne : (t == Value.ref C) = false) {b : Bool} (hs : PySem.W.subIn K t (.ref C) = some b) : PySem.W.kitOne K t (.ref C) = some b := by
  unfold PySem.W.kitOne
  rw [if_neg (by rw [hne]; decide)]
  show (if ((PySem.W.clsIn K C).isSome && PySem.W.typeIn K (.ref C) == some (.type "type")) = true then PySem.W.subIn K t (.ref C) else none) = some b
  rw [if_pos, hs]
  rw [clsIn_of h, h.ty]
  rfl
theorem kit_same : PySem.W.kitOne K (.ref C) (.ref C) = some true := by
  unfold PySem.W.kitOne
  rw [if_pos]
  exact beq_iff_eq.mpr rfl
theorem C0.isC (h : C0 K C) : IsC K C where
  cl := h.cls
  ha := h.ha
  hn := h.hn
  htk := h.htk
  hm := h.hm
  no := fun t => by
    cases t
    · exact kit_toTy h.s1 (by decide +kernel)
    · exact kit_toTy h.s2 (by decide +kernel)
    · exact kit_toTy h.s3 (by decide +kernel)
    · exact kit_toTy h.s4 (by decide +kernel)
    · exact kit_toTy h.s5 (by decide +kernel)
theorem C0.kit {T : Tb} {n c : Nat} (h : C0 K (T.ad c)) (o : ∀ c', c' < n → c' ≠ c → T.ad c' ≠ T.ad c ∧ PySem.W.subIn K (.ref (T.ad c')) (.ref (T.ad c)) = some false) : KitC K T n c where
  non := kit_toC h rfl h.b1
  bl := kit_toC h rfl h.b2
  int := kit_toC h rfl h.b3
  str := kit_toC h rfl h.b4
  lst := kit_toC h rfl h.b5
  tup := kit_toC h rfl h.b6
  ins := fun c' hc' => by
    by_cases e : c' = c
    · subst e
      rw [kit_same]
      simp
    · obtain ⟨h1, h2⟩ := o c' hc' e
      rw [kit_toC h (by
        cases z : (Value.ref (T.ad c') == Value.ref (T.ad c)) with
        | false => rfl
        | true =>
          have := beq_iff_eq.mp z
          injection this with q
          exact absurd q h1) h2]
      simp [e]
end
/-- a def with one default, told by the head -/
theorem funB_one {K : PySem.W.Frag} {x qual : Str} {st : Stmt} {f T0 : Addr} {oc : Value} {od an oT' : Option Addr} {osl sT : Array (Option Value)} {kV doc pm cdv ct oT : Value} {nT : Nat} {ps : List Str} {its : Array Value} {dv : V}
    (l : K.lookup f = some ⟨oc, od, .func (PySem.W.fnOf x qual (defArgs st) (defBody st) (defScope st) (.ref T0) kV doc pm an cdv ct), osl⟩)
    (c : PySem.W.codeIn K cdv qual = true) (k : PySem.W.keepIn K (.ref f) = true) (lT : K.lookup T0 = some ⟨oT, oT', .seq its nT, sT⟩) (hv : Vals [dv] its.toList)
    (h : ∀ (T : Addr) (kV doc pm : Value) (an : Option Addr) (cdv ct : Value) (us its : List Value), us.length = ps.length → its.length = 1 →
      ∃ k, bindArgs (PySem.W.fnOf x qual (defArgs st) (defBody st) (defScope st) (.ref T) kV doc pm an cdv ct) ⟨us, []⟩ = seqItems? (.ref T) >>= k ∧ k (some its.toArray) = pure (ps.zip (us ++ its.drop 1))) :
    FunB K x qual st f (PySem.W.fnOf x qual (defArgs st) (defBody st) (defScope st) (.ref T0) kV doc pm an cdv ct) ps := by
  have F : FunD K x qual (defArgs st) (defBody st) (defScope st) [dv] [] f (PySem.W.fnOf x qual (defArgs st) (defBody st) (defScope st) (.ref T0) kV doc pm an cdv ct) :=
    ⟨⟨oc, od, .ref T0, kV, doc, pm, an, cdv, ct, osl, rfl, l, c, .inr ⟨by simp, T0, _, its.toList, nT, rfl, lT, by simp, hv⟩, .inl rfl⟩, k⟩
  obtain ⟨ds, hd, hb⟩ := F.binds1 ps.length 1 (by simp) (by simp) h
  have : ds = [] := by
    cases hd
    rfl
  subst this
  exact ⟨⟨oc, od, _, kV, doc, pm, an, cdv, ct, osl, rfl, l, c⟩, hb⟩
/-- the law's promise, without a table -/
def spL (K : PySem.W.Frag) : Sp := fun vs H Q E => ∃ (a : Addr) (ns : List Int), vs = [.ref a] ∧ SqL K H a (ns.map V.int) ∧ ns.length ≤ 63 ∧ (∀ z ∈ ns, Builtin.Int.intBits z ≤ 1048576) ∧ ∀ H', Q (.bl true) H'
theorem spL_of {T : Tb} {K : PySem.W.Frag} {m : List D → FR} (hK : T.K = K) (hm : ∀ ns : List Int, ns.length ≤ 63 → (∀ z ∈ ns, Builtin.Int.intBits z ≤ 1048576) → m [.scr ns] = .ret (.bl true)) : ∀ vs H Q E, spL K vs H Q E → spM T 1 m vs H Q E := by
  rintro vs H Q E ⟨a, ns, rfl, hS, hl, hb, k⟩
  refine ⟨rfl, H, [.scr ns], .refl _, .cons (rep_scr.mpr ⟨a, rfl, by rw [hK]; exact hS⟩) .nil, ?_⟩
  rw [hm ns hl hb]
  intro v F' H' _ r
  rw [rep_bl.mp r]
  exact k H'
theorem walkL {l : PySem.W.OpenLaw} {k : Nat} {q : Program} {loose : List Str} {XP : (Str → Option Value) → Heap → Prop} {YP : World → Heap → Prop} {d : DefRec} {K : Params → PySem.W.Frag} (hn : l.most = some 63) (hdf : d.params.defaults = []) (hr : Room k callerA)
    (hY : ∀ (w : World) (h : Heap), YP w h → (K w.params).In h)
    (F : ∀ (w : World) (mg : Str → Option Value) (fa : Addr) (h : Heap), (K w.params).In h → h.Ns mainGlobals mg → mg d.name = some (.ref fa) →
      ∃ fd : FuncData, (∀ (s : Shared) (u : Value), BindsTo s fd ⟨[u], []⟩ [("script", u)]) ∧ ∀ base : Heap, (K w.params).In base → base.Ns mainGlobals mg → FnOk l.prog w (K w.params) mg base (L2.CX l.prog w) k fa fd ["script"] (spL (K w.params))) :
    PySem.W.WalkO q loose XP YP l.row.toRowW d [] (fun f vs => PySem.call f vs) :=
  L2.walk_ofB (n := 63) (k := k) (x := "script") (CX := fun w => L2.CX l.prog w) (sp := fun w => spL (K w.params)) hn (by decide) hdf hr hY F (fun _ _ a ns hl hb _ hS => ⟨a, ns, rfl, hS, hl, hb, fun _ => rfl⟩) fun w H s e s' z => noCX H s e s' z
end EV
set_option maxRecDepth 100000
namespace EV
open PySem
noncomputable section
def ix_bottom (c : Nat) : Option Nat := if c = 0 then some 1 else none
def ix_top (c : Nat) : Option Nat := if c = 0 then some 0 else none
def N__law_bag : List Str := ["script", "k"]
abbrev b__law_bag : FS := (EV.retO (lstO (aCons (frz (EV.lc [1] (EV.iRng1 (aCons (bi bMin (aCons (cC (.int 63)) (aCons (lenN 0) aNil))) aNil)) (gN 1) EV.tYes (ixN 0 (nm 1)))) (aCons (cC (.int 0)) (aCons (cC (.int 0)) (aCons (cC (.int 7919)) aNil))))))
def m__law_bag : List D → FR := EV.fn 1 2 b__law_bag
def N__law_draw : List Str := ["bag", "size", "cell", "step", "drawn"]
abbrev b__law_draw : FS := (EV.seq (EV.ifS (tB (bin dEq (ixN 0 (cC (.int 2))) (cC (.int 0))))
  (EV.seq (asg (gN 2) (cC (.int 0)))
  (EV.seq (EV.ifS (tB (bin dLt (ixN 0 (cC (.int 1))) (bi bLen (aCons (ixN 0 (cC (.int 0))) aNil))))
  (asg (gN 2) (bin dIx (ixN 0 (cC (.int 0))) (ixN 0 (cC (.int 1)))))
  sNx)
  (EV.seq (setI 0 (cC (.int 1)) (bin dAdd (ixN 0 (cC (.int 1))) (cC (.int 1))))
  (EV.ifS (tB (bin dGe (nm 2) (bin dPow (cC (.int 10)) (cC (.int 18)))))
  (setI 0 (cC (.int 2)) (bin dMod (bi bInt (aCons (nm 2) aNil)) (bin dPow (bin dPow (cC (.int 10)) (cC (.int 60))) (cC (.int 15)))))
  (EV.seq (asg (gN 3) (bin dMod (bi bInt (aCons (bin dAdd (bin dAdd (bin dAdd (bin dMul (ixN 0 (cC (.int 3))) (cC (.int 48271))) (bin dMul (nm 2) (cC (.int 69621)))) (bin dMul (ixN 0 (cC (.int 1))) (cC (.int 104729)))) (cC (.int 77777))) aNil)) (cC (.int 2305843009213693951))))
  (EV.seq (setI 0 (cC (.int 3)) (nm 3))
  (setI 0 (cC (.int 2)) (bin dMod (bi bInt (aCons (bin dAdd (bin dAdd (bin dMul (bin dMul (nm 3) (nm 3)) (nm 3)) (bin dMul (cC (.int 977)) (nm 3))) (ixN 0 (cC (.int 1)))) aNil)) (cC (.int 170141183460469231731687303715884105727))))))))))
  sNx)
  (EV.seq (asg (gN 4) (bin dMod (bi bInt (aCons (ixN 0 (cC (.int 2))) aNil)) (nm 1)))
  (EV.seq (setI 0 (cC (.int 2)) (bin dDiv (bi bInt (aCons (ixN 0 (cC (.int 2))) aNil)) (nm 1)))
  (retNm 4))))
def m__law_draw : O → List D → FQ := fnQ 2 5 b__law_draw
def N__law_due : List Str := ["size", "signs", "left", "prime", "k", "row", "one", "step", "made"]
abbrev b__law_due : FS := (EV.seq (asgO 1 (lstO (aCons (tupE (aCons (cC (.int 1)) (aCons (cC (.int 1)) aNil))) aNil)))
  (EV.seq (asg (gN 2) (nm 0))
  (EV.seq (EV.forS (EV.iRng2 (aCons (cC (.int 2)) (aCons (bin dAdd (nm 0) (cC (.int 1))) aNil))) (gN 3)
  (EV.ifS (tB (bin dEq (bin dMod (bi bInt (aCons (nm 2) aNil)) (nm 3)) (cC (.int 0))))
  (EV.seq (asgO 1 (binO dCatO (nm 1) (frz (EV.lc [6] (iSeq (nm 1)) (gN 6) EV.tYes (tupE (aCons (bin dMul (ixN 6 (cC (.int 0))) (nm 3)) (aCons (un dNeg (ixN 6 (cC (.int 1)))) aNil)))))))
  (EV.forS (EV.iRng1 (aCons (cC (.int 7)) aNil)) (gN 4)
  (EV.ifS (tB (bin dEq (bin dMod (bi bInt (aCons (nm 2) aNil)) (nm 3)) (cC (.int 0))))
  (asg (gN 2) (bin dDiv (nm 2) (nm 3)))
  sNx)))
  sNx))
  (EV.seq (asgO 5 (lstO (aCons (cC (.int 1)) aNil)))
  (EV.seq (EV.forS (iSeq (nm 1)) (gN 6)
  (EV.ifS (tB (bin dEq (ixN 6 (cC (.int 1))) (cC (.int 1))))
  (EV.seq (asg (gN 7) (bin dDiv (nm 0) (ixN 6 (cC (.int 0)))))
  (asgO 5 (EV.lc [4] (EV.iRng1 (aCons (bin dAdd (lenN 5) (nm 7)) aNil)) (gN 4) EV.tYes (bin dSub (ifE (tB (bin dGe (nm 4) (nm 7))) (ixN 5 (bin dSub (nm 4) (nm 7))) (cC (.int 0))) (ifE (tB (bin dLt (nm 4) (lenN 5))) (ixN 5 (nm 4)) (cC (.int 0)))))))
  sNx))
  (EV.seq (EV.forS (iSeq (nm 1)) (gN 6)
  (EV.ifS (tB (bin dEq (ixN 6 (cC (.int 1))) (un dNeg (cC (.int 1)))))
  (EV.seq (asg (gN 7) (bin dDiv (nm 0) (ixN 6 (cC (.int 0)))))
  (EV.seq (asgO 8 (lstO aNil))
  (EV.seq (EV.forS (EV.iRng1 (aCons (bin dSub (lenN 5) (nm 7)) aNil)) (gN 4)
  (app 8 (bin dSub (ifE (tB (bin dGe (nm 4) (nm 7))) (ixN 8 (bin dSub (nm 4) (nm 7))) (cC (.int 0))) (ixN 5 (nm 4)))))
  (asg (gN 5) (nm 8)))))
  sNx))
  (retNm 5)))))))
def m__law_due : List D → FR := EV.fn 1 9 b__law_due
def N_is_integer : List Str := ["value"]
abbrev b_is_integer : FS := (EV.ret (eAnd (bi (bIsTy .int) (aCons (nm 0) aNil)) (eNot (bi (bIsTy .bool) (aCons (nm 0) aNil)))))
def m_is_integer : List D → FR := EV.fn 1 1 b_is_integer
def N_Ratio_init : List Str := ["self", "top", "bottom", "share"]
abbrev b_Ratio_init : FS := (EV.seq (EV.ifS (tOr (tNot (tT (EV.call m_is_integer (aCons (nm 1) aNil)))) (tNot (tT (EV.call m_is_integer (aCons (nm 2) aNil)))))
  stS
  sNx)
  (EV.seq (EV.ifS (tB (bin dEq (nm 2) (cC (.int 0))))
  stS
  sNx)
  (EV.seq (asg (gN 3) (bi bGcd (aCons (nm 1) (aCons (nm 2) aNil))))
  (EV.seq (EV.ifS (tB (bin dLt (nm 2) (cC (.int 0))))
  (asg (gN 3) (un dNeg (nm 3)))
  sNx)
  (EV.seq (setF 0 0 "top" (bin dDiv (nm 1) (nm 3)))
  (setF 0 0 "bottom" (bin dDiv (nm 2) (nm 3))))))))
def m_Ratio_init : O → List D → FQ := fnQ 3 4 b_Ratio_init
def mk_Ratio : List D → FR := EV.mk 0 ["top", "bottom"] m_Ratio_init
def N_ratios : List Str := ["tops", "bottom", "top"]
abbrev b_ratios : FS := (EV.ret (bi bTuple (aCons (frz (EV.lc [2] (iSeq (nm 0)) (gN 2) EV.tYes (EV.call mk_Ratio (aCons (nm 2) (aCons (nm 1) aNil))))) aNil)))
def m_ratios : List D → FR := EV.fn 2 3 b_ratios
def N_prime_factors : List Str := ["m", "primes", "rest", "at"]
abbrev b_prime_factors : FS := (EV.seq (asgO 1 (lstO aNil))
  (EV.seq (asg (gN 2) (nm 0))
  (EV.seq (asg (gN 3) (cC (.int 2)))
  (EV.seq (EV.whl (tB (bin dLe (bin dMul (nm 3) (nm 3)) (nm 2)))
  (EV.seq (EV.ifS (tB (bin dEq (bin dMod (nm 2) (nm 3)) (cC (.int 0))))
  (EV.seq (app 1 (nm 3))
  (EV.whl (tB (bin dEq (bin dMod (nm 2) (nm 3)) (cC (.int 0))))
  (aug dDiv 2 (nm 3)) 1000000))
  sNx)
  (aug dAddI 3 (cC (.int 1)))) 1000000)
  (EV.ret (ifE (tB (bin dGt (nm 2) (cC (.int 1)))) (bin dAdd (nm 1) (frz (lstO (aCons (nm 2) aNil)))) (nm 1)))))))
def m_prime_factors : List D → FR := EV.fn 1 4 b_prime_factors
def N_tops_spread : List Str := ["tops", "m", "spaced", "at", "top", "_"]
abbrev b_tops_spread : FS := (EV.seq (EV.ifS (tNot (tT (nm 0)))
  (EV.retO (lstO aNil))
  sNx)
  (EV.seq (asgO 2 (EV.lc [5] (EV.iRng1 (aCons (bin dAdd (bin dMul (bin dSub (lenN 0) (cC (.int 1))) (nm 1)) (cC (.int 1))) aNil)) (gN 5) EV.tYes (cC (.int 0))))
  (EV.seq (EV.forS (EV.iEnum (nm 0)) (gT (gsCons (gN 3) (gsCons (gN 4) gsNil)))
  (setI 2 (bin dMul (nm 3) (nm 1)) (nm 4)))
  (retNm 2))))
def m_tops_spread : List D → FR := EV.fn 2 6 b_tops_spread
def N_signed_divisors : List Str := ["m", "pairs", "prime", "e", "sign"]
abbrev b_signed_divisors : FS := (EV.seq (asgO 1 (lstO (aCons (tupE (aCons (nm 0) (aCons (cC (.int 1)) aNil))) aNil)))
  (EV.seq (EV.forS (iSeq (EV.call m_prime_factors (aCons (nm 0) aNil))) (gN 2)
  (asgO 1 (binO dCatO (nm 1) (frz (EV.lc [3, 4] (iSeq (nm 1)) (gT (gsCons (gN 3) (gsCons (gN 4) gsNil))) EV.tYes (tupE (aCons (bin dDiv (nm 3) (nm 2)) (aCons (un dNeg (nm 4)) aNil))))))))
  (retNm 1)))
def m_signed_divisors : List D → FR := EV.fn 1 5 b_signed_divisors
def N_round_length : List Str := ["m", "length", "prime"]
abbrev b_round_length : FS := (EV.seq (asg (gN 1) (nm 0))
  (EV.seq (EV.forS (iSeq (EV.call m_prime_factors (aCons (nm 0) aNil))) (gN 2)
  (asg (gN 1) (bin dMul (bin dDiv (nm 1) (nm 2)) (bin dSub (nm 2) (cC (.int 1))))))
  (retNm 1)))
def m_round_length : List D → FR := EV.fn 1 3 b_round_length
def N_times_gap : List Str := ["tops", "e", "at", "top"]
abbrev b_times_gap : FS := (EV.retO (EV.lc [2, 3] (EV.iEnum (nm 0)) (gT (gsCons (gN 2) (gsCons (gN 3) gsNil))) EV.tYes (ifE (tB (bin dGe (nm 2) (nm 1))) (bin dSub (nm 3) (ixN 0 (bin dSub (nm 2) (nm 1)))) (nm 3))))
def m_times_gap : List D → FR := EV.fn 2 4 b_times_gap
def N_over_gap : List Str := ["tops", "e", "series", "at"]
abbrev b_over_gap : FS := (EV.seq (asgO 2 (biO bList (aCons (nm 0) aNil)))
  (EV.seq (EV.forS (EV.iRng2 (aCons (nm 1) (aCons (lenN 2) aNil))) (gN 3)
  (setI 2 (nm 3) (bin dAdd (ixN 2 (nm 3)) (ixN 2 (bin dSub (nm 3) (nm 1))))))
  (retNm 2)))
def m_over_gap : List D → FR := EV.fn 2 4 b_over_gap
def N_round_product : List Str := ["indexes", "powers", "m", "e", "sign", "series", "power", "_"]
abbrev b_round_product : FS := (EV.seq (asgO 1 newD)
  (EV.seq (EV.forS (iSeq (nm 0)) (gN 2)
  (EV.forS (iSeq (EV.call m_signed_divisors (aCons (nm 2) aNil))) (gT (gsCons (gN 3) (gsCons (gN 4) gsNil)))
  (dPut 1 (nm 3) (bin dAdd (dGet2 1 (nm 3) (cC (.int 0))) (nm 4)))))
  (EV.seq (asgO 5 (binO dCatO (frz (lstO (aCons (cC (.int 1)) aNil))) (bin dMul (frz (lstO (aCons (cC (.int 0)) aNil))) (bi bSum (aCons (frz (EV.lc [2] (iSeq (nm 0)) (gN 2) EV.tYes (EV.call m_round_length (aCons (nm 2) aNil)))) aNil)))))
  (EV.seq (forItems 1 (gT (gsCons (gN 3) (gsCons (gN 6) gsNil)))
  (EV.seq (EV.forS (EV.iRng1 (aCons (nm 6) aNil)) (gN 7)
  (asg (gN 5) (EV.call m_times_gap (aCons (nm 5) (aCons (nm 3) aNil)))))
  (EV.forS (EV.iRng1 (aCons (un dNeg (nm 6)) aNil)) (gN 7)
  (asg (gN 5) (EV.call m_over_gap (aCons (nm 5) (aCons (nm 3) aNil)))))))
  (retNm 5)))))
def m_round_product : List D → FR := EV.fn 1 8 b_round_product
def N_round_tops : List Str := ["m", "kernel", "prime"]
abbrev b_round_tops : FS := (EV.seq (EV.ifS (tB (bin dEq (nm 0) (cC (.int 1))))
  (EV.retO (lstO (aCons (un dNeg (cC (.int 1))) (aCons (cC (.int 1)) aNil))))
  sNx)
  (EV.seq (asg (gN 1) (cC (.int 1)))
  (EV.seq (EV.forS (iSeq (EV.call m_prime_factors (aCons (nm 0) aNil))) (gN 2)
  (asg (gN 1) (bin dMul (nm 1) (nm 2))))
  (EV.ret (EV.call m_tops_spread (aCons (EV.call m_round_product (aCons (frz (lstO (aCons (nm 1) aNil))) aNil)) (aCons (bin dDiv (nm 0) (nm 1)) aNil)))))))
def m_round_tops : List D → FR := EV.fn 1 3 b_round_tops
def N_round_factor : List Str := ["m"]
abbrev b_round_factor : FS := (EV.ret (EV.call m_ratios (aCons (EV.call m_round_tops (aCons (nm 0) aNil)) (aCons (cC (.int 1)) aNil))))
def m_round_factor : List D → FR := EV.fn 1 1 b_round_factor
def N__law_is_int : List Str := ["thing"]
abbrev b__law_is_int : FS := (EV.ret (eAnd (bi (bIsTy .int) (aCons (nm 0) aNil)) (eNot (bi (bIsTy .bool) (aCons (nm 0) aNil)))))
def m__law_is_int : List D → FR := EV.fn 1 1 b__law_is_int
def N__law_lowest : List Str := ["high", "low", "a", "b", "k", "rest"]
abbrev b__law_lowest : FS := (EV.seq (asg (gN 2) (bi bAbs (aCons (nm 0) aNil)))
  (EV.seq (asg (gN 3) (bi bAbs (aCons (nm 1) aNil)))
  (EV.seq (EV.forS (EV.iRng1 (aCons (bin dAdd (bin dMul (cC (.int 2)) (un bBits (nm 3))) (cC (.int 2))) aNil)) (gN 4)
  (EV.seq (EV.ifS (tB (bin dEq (nm 3) (cC (.int 0))))
  sBr
  sNx)
  (EV.seq (asg (gN 5) (bin dMod (bi bInt (aCons (nm 2) aNil)) (nm 3)))
  (EV.seq (asg (gN 2) (nm 3))
  (asg (gN 3) (nm 5))))))
  (EV.seq (EV.ifS (tB (bin dLt (nm 1) (cC (.int 0))))
  (asg (gN 2) (un dNeg (nm 2)))
  sNx)
  (EV.ret (tupE (aCons (bin dDiv (nm 0) (nm 2)) (aCons (bin dDiv (nm 1) (nm 2)) aNil))))))))
def m__law_lowest : List D → FR := EV.fn 2 6 b__law_lowest
def N__law_pair : List Str := ["told", "high", "low"]
abbrev b__law_pair : FS := (EV.seq (EV.ifS (tNot (tT (bi (bIsC 1 0) (aCons (nm 0) aNil))))
  (EV.ret (cC .non))
  sNx)
  (EV.seq (asg (gN 1) (fld ix_top (nm 0)))
  (EV.seq (asg (gN 2) (fld ix_bottom (nm 0)))
  (EV.seq (EV.ifS (tOr (tNot (tT (EV.call m__law_is_int (aCons (nm 1) aNil)))) (tOr (tNot (tT (EV.call m__law_is_int (aCons (nm 2) aNil)))) (tB (bin dLt (nm 2) (cC (.int 1))))))
  (EV.ret (cC .non))
  sNx)
  (EV.seq (EV.ifS (tB (bin dNe (EV.call m__law_lowest (aCons (nm 1) (aCons (nm 2) aNil))) (tupE (aCons (nm 1) (aCons (nm 2) aNil)))))
  (EV.ret (cC .non))
  sNx)
  (EV.ret (tupE (aCons (nm 1) (aCons (nm 2) aNil)))))))))
def m__law_pair : List D → FR := EV.fn 1 3 b__law_pair
def N__law_pairs : List Str := ["told", "row", "one"]
abbrev b__law_pairs : FS := (EV.seq (EV.ifS (tNot (tT (bi (bIsTy .tuple) (aCons (nm 0) aNil))))
  (EV.ret (cC .non))
  sNx)
  (EV.seq (asgO 1 (EV.lc [2] (iSeq (nm 0)) (gN 2) EV.tYes (EV.call m__law_pair (aCons (nm 2) aNil))))
  (EV.ret (ifE (tB (bin dIn (cC .non) (nm 1))) (cC .non) (nm 1)))))
def m__law_pairs : List D → FR := EV.fn 1 3 b__law_pairs
def N__law_whole : List Str := ["told", "row", "x"]
abbrev b__law_whole : FS := (EV.seq (asg (gN 1) (EV.call m__law_pairs (aCons (nm 0) aNil)))
  (EV.seq (EV.ifS (tB (bin dIsN (nm 1) (cC .non)))
  (EV.ret (cC .non))
  sNx)
  (EV.retO (EV.lc [2] (iSeq (nm 1)) (gN 2) EV.tYes (ifE (tB (bin dEq (ixN 2 (cC (.int 1))) (cC (.int 1)))) (ixN 2 (cC (.int 0))) (cC .non))))))
def m__law_whole : List D → FR := EV.fn 1 3 b__law_whole
def N_tops_of_ratios : List Str := ["numbers", "bottom", "each"]
abbrev b_tops_of_ratios : FS := (EV.seq (asg (gN 1) (cC (.int 1)))
  (EV.seq (EV.forS (iSeq (nm 0)) (gN 2)
  (asg (gN 1) (bi bLcm (aCons (nm 1) (aCons (fld ix_bottom (nm 2)) aNil)))))
  (EV.ret (tupE (aCons (frz (EV.lc [2] (iSeq (nm 0)) (gN 2) EV.tYes (bin dMul (fld ix_top (nm 2)) (bin dDiv (nm 1) (fld ix_bottom (nm 2)))))) (aCons (nm 1) aNil))))))
def m_tops_of_ratios : List D → FR := EV.fn 1 3 b_tops_of_ratios
def N_stripped : List Str := ["numbers", "size"]
abbrev b_stripped : FS := (EV.seq (asg (gN 1) (lenN 0))
  (EV.seq (EV.whl (tAnd (tT (nm 1)) (tB (bin dEq (fld ix_top (ixN 0 (bin dSub (nm 1) (cC (.int 1))))) (cC (.int 0)))))
  (aug dSub 1 (cC (.int 1))) 1000000)
  (EV.ret (bi bTuple (aCons (slE (nm 0) pNo (pSo (nm 1))) aNil)))))
def m_stripped : List D → FR := EV.fn 1 2 b_stripped
def N_number : List Str := ["value", "top", "bottom"]
abbrev b_number : FS := (EV.seq (EV.ifS (tT (bi (bIsC 1 0) (aCons (nm 0) aNil)))
  (retNm 0)
  sNx)
  (EV.seq (EV.ifS (tT (bi (bIsTy .str) (aCons (nm 0) aNil)))
  (EV.seq (asg (gT (gsCons (gN 1) (gsCons (gN 2) gsNil))) stE)
  (EV.ret (EV.call mk_Ratio (aCons (nm 1) (aCons (nm 2) aNil)))))
  sNx)
  (EV.seq (EV.ifS (tT (EV.call m_is_integer (aCons (nm 0) aNil)))
  (EV.ret stE)
  sNx)
  stS)))
def m_number : List D → FR := EV.fn 1 3 b_number
def N_polynomial : List Str := ["value", "top", "bottom", "each"]
abbrev b_polynomial : FS := (EV.seq (EV.ifS (tT (bi (bIsTy .str) (aCons (nm 0) aNil)))
  (EV.ret (EV.call m_stripped (aCons (frz (EV.lc [1, 2] (iSeq stE) (gT (gsCons (gN 1) (gsCons (gN 2) gsNil))) EV.tYes (EV.call mk_Ratio (aCons (nm 1) (aCons (nm 2) aNil))))) aNil)))
  sNx)
  (EV.ret (EV.call m_stripped (aCons (frz (EV.lc [3] (iSeq (nm 0)) (gN 3) EV.tYes (EV.call m_number (aCons (nm 3) aNil)))) aNil))))
def m_polynomial : List D → FR := EV.fn 1 4 b_polynomial
def N_tops_turned : List Str := ["tops", "at", "top"]
abbrev b_tops_turned : FS := (EV.retO (EV.lc [1, 2] (EV.iEnum (nm 0)) (gT (gsCons (gN 1) (gsCons (gN 2) gsNil))) EV.tYes (ifE (tT (bin dAnd1 (nm 1) (cC (.int 1)))) (un dNeg (nm 2)) (nm 2))))
def m_tops_turned : List D → FR := EV.fn 1 3 b_tops_turned
def N_turned : List Str := ["p", "tops", "bottom"]
abbrev b_turned : FS := (EV.seq (asg (gT (gsCons (gN 1) (gsCons (gN 2) gsNil))) (EV.call m_tops_of_ratios (aCons (EV.call m_polynomial (aCons (nm 0) aNil)) aNil)))
  (EV.ret (EV.call m_ratios (aCons (EV.call m_tops_turned (aCons (nm 1) aNil)) (aCons (nm 2) aNil)))))
def m_turned : List D → FR := EV.fn 1 3 b_turned
def N__law_table : List Str := ["size", "table"]
abbrev b__law_table : FS := (EV.seq (asgO 1 (lstO (aCons (frz (lstO (aCons (un dNeg (cC (.int 1))) (aCons (cC (.int 1)) aNil)))) (aCons (frz (lstO (aCons (cC (.int 1)) (aCons (cC (.int 1)) aNil)))) (aCons (frz (lstO (aCons (cC (.int 1)) (aCons (cC (.int 1)) (aCons (cC (.int 1)) aNil))))) (aCons (frz (lstO (aCons (cC (.int 1)) (aCons (cC (.int 0)) (aCons (cC (.int 1)) aNil))))) (aCons (frz (lstO (aCons (cC (.int 1)) (aCons (cC (.int 1)) (aCons (cC (.int 1)) (aCons (cC (.int 1)) (aCons (cC (.int 1)) aNil))))))) (aCons (frz (lstO (aCons (cC (.int 1)) (aCons (un dNeg (cC (.int 1))) (aCons (cC (.int 1)) aNil))))) (aCons (frz (lstO (aCons (cC (.int 1)) (aCons (cC (.int 1)) (aCons (cC (.int 1)) (aCons (cC (.int 1)) (aCons (cC (.int 1)) (aCons (cC (.int 1)) (aCons (cC (.int 1)) aNil))))))))) (aCons (frz (lstO (aCons (cC (.int 1)) (aCons (cC (.int 0)) (aCons (cC (.int 0)) (aCons (cC (.int 0)) (aCons (cC (.int 1)) aNil))))))) aNil))))))))))
  (EV.seq (asgO 1 (binO dCatO (nm 1) (frz (lstO (aCons (frz (lstO (aCons (cC (.int 1)) (aCons (cC (.int 0)) (aCons (cC (.int 0)) (aCons (cC (.int 1)) (aCons (cC (.int 0)) (aCons (cC (.int 0)) (aCons (cC (.int 1)) aNil))))))))) (aCons (frz (lstO (aCons (cC (.int 1)) (aCons (un dNeg (cC (.int 1))) (aCons (cC (.int 1)) (aCons (un dNeg (cC (.int 1))) (aCons (cC (.int 1)) aNil))))))) (aCons (frz (lstO (aCons (cC (.int 1)) (aCons (cC (.int 1)) (aCons (cC (.int 1)) (aCons (cC (.int 1)) (aCons (cC (.int 1)) (aCons (cC (.int 1)) (aCons (cC (.int 1)) (aCons (cC (.int 1)) (aCons (cC (.int 1)) (aCons (cC (.int 1)) (aCons (cC (.int 1)) aNil))))))))))))) (aCons (frz (lstO (aCons (cC (.int 1)) (aCons (cC (.int 0)) (aCons (un dNeg (cC (.int 1))) (aCons (cC (.int 0)) (aCons (cC (.int 1)) aNil))))))) aNil))))))))
  (EV.ret (ixN 1 (bin dSub (nm 0) (cC (.int 1)))))))
def m__law_table : List D → FR := EV.fn 1 2 b__law_table
def N__law_holds : List Str := ["size", "due", "told", "k"]
abbrev b__law_holds : FS := (EV.seq (asg (gN 1) (EV.call m__law_due (aCons (nm 0) aNil)))
  (EV.seq (asg (gN 2) (EV.call m_round_factor (aCons (nm 0) aNil)))
  (EV.seq (EV.ifS (tOr (tB (bin dNe (EV.call m__law_whole (aCons (nm 2) aNil)) (nm 1))) (tB (bin dNe (EV.call m__law_whole (aCons (EV.call m_turned (aCons (nm 2) aNil)) aNil)) (frz (EV.lc [3] (EV.iRng1 (aCons (lenN 1) aNil)) (gN 3) EV.tYes (ifE (tB (bin dEq (bin dMod (nm 3) (cC (.int 2))) (cC (.int 0)))) (ixN 1 (nm 3)) (un dNeg (ixN 1 (nm 3)))))))))
  (EV.ret (cC (.bl false)))
  sNx)
  (EV.ret (eOr (bin dGt (nm 0) (cC (.int 12))) (bin dEq (nm 1) (EV.call m__law_table (aCons (nm 0) aNil))))))))
def m__law_holds : List D → FR := EV.fn 1 4 b__law_holds
def N_law : List Str := ["script", "bag", "large", "size", "other", "product", "k", "factor", "made", "i", "j"]
abbrev b_law : FS := (EV.seq (asgO 1 (callO m__law_bag (aCons (nm 0) aNil)))
  (EV.seq (asg (gN 2) (bin dEq (callQ m__law_draw 1 (aCons (cC (.int 8)) aNil)) (cC (.int 3))))
  (EV.seq (asg (gN 3) (bin dAdd (cC (.int 1)) (callQ m__law_draw 1 (aCons (cC (.int 60)) aNil))))
  (EV.seq (asg (gN 4) (ifE (tT (nm 2)) (bin dAdd (cC (.int 61)) (callQ m__law_draw 1 (aCons (cC (.int 60)) aNil))) (bin dAdd (cC (.int 1)) (callQ m__law_draw 1 (aCons (cC (.int 60)) aNil)))))
  (EV.seq (EV.ifS (tOr (tNot (tT (EV.call m__law_holds (aCons (nm 3) aNil)))) (tOr (tNot (tT (EV.call m__law_holds (aCons (nm 4) aNil)))) (tNot (tT (EV.call m__law_holds (aCons (bin dAdd (cC (.int 1)) (callQ m__law_draw 1 (aCons (cC (.int 12)) aNil))) aNil))))))
  (EV.ret (cC (.bl false)))
  sNx)
  (EV.seq (asgO 5 (lstO (aCons (cC (.int 1)) aNil)))
  (EV.seq (EV.forS (EV.iRng2 (aCons (cC (.int 1)) (aCons (bin dAdd (nm 3) (cC (.int 1))) aNil))) (gN 6)
  (EV.ifS (tB (bin dEq (bin dMod (bi bInt (aCons (nm 3) aNil)) (nm 6)) (cC (.int 0))))
  (EV.seq (asg (gN 7) (EV.call m__law_whole (aCons (EV.call m_round_factor (aCons (nm 6) aNil)) aNil)))
  (EV.seq (EV.ifS (tOr (tB (bin dIsN (nm 7) (cC .non))) (tB (bin dIn (cC .non) (nm 7))))
  (EV.ret (cC (.bl false)))
  sNx)
  (EV.seq (asgO 8 (binO dRepO (frz (lstO (aCons (cC (.int 0)) aNil))) (bin dSub (bin dAdd (lenN 5) (lenN 7)) (cC (.int 1)))))
  (EV.seq (EV.forS (EV.iRng1 (aCons (lenN 5) aNil)) (gN 9)
  (EV.forS (EV.iRng1 (aCons (lenN 7) aNil)) (gN 10)
  (setI 8 (bin dAdd (nm 9) (nm 10)) (bin dAdd (ixN 8 (bin dAdd (nm 9) (nm 10))) (bin dMul (ixN 5 (nm 9)) (ixN 7 (nm 10)))))))
  (asg (gN 5) (nm 8))))))
  sNx))
  (EV.ret (bin dEq (nm 5) (bin dAdd (bin dAdd (frz (lstO (aCons (un dNeg (cC (.int 1))) aNil))) (bin dMul (frz (lstO (aCons (cC (.int 0)) aNil))) (bin dSub (nm 3) (cC (.int 1))))) (frz (lstO (aCons (cC (.int 1)) aNil)))))))))))))
def m_law : List D → FR := EV.fn 1 11 b_law
end
end EV
set_option maxRecDepth 100000
namespace EV
open PySem
abbrev rat (h : Int) : D := .ins 0 [.int h, .int 1]
abbrev pr (h : Int) : D := .tup [.int h, .int 1]
theorem is_int_ok (h : Int) : m__law_is_int [.int h] = .ret (.bl true) := rfl
theorem is_integer_ok (h : Int) : m_is_integer [.int h] = .ret (.bl true) := rfl
theorem log1 : Nat.log2 1 = 0 := by decide +kernel
theorem div1 (h : Int) : dDiv (.int h) (.int 1) = some (.int h) := by simp [dDiv, log1]
theorem mod1 (h : Int) : dMod (.int h) (.int 1) = some (.int 0) := by simp [dMod, log1]
theorem gcd1 (h : Int) : bGcd [.int h, .int 1] = some (.int 1) := by simp [bGcd]
theorem init_ok (h : Int) : m_Ratio_init (.i 0 []) [.int h, .int 1] = .ret .non (.i 0 [("top", .int h), ("bottom", .int 1)]) := by
  have st1 : b_Ratio_init [.ow (some 0) (.i 0 []), .sh (.int h), .sh (.int 1), .no] = .ok .nx [.ow (some 0) (.i 0 [("top", .int h), ("bottom", .int 1)]), .sh (.int h), .sh (.int 1), .sh (.int 1)] := by
    have e : (Str.ofString "bottom" == Str.ofString "top") = false := by decide +kernel
    simp [EV.seq, EV.ifS, tOr, tNot, tT, EV.call, aCons, aNil, nm, is_integer_ok, FR.toE, tru, bin, cC, tB, sNx, asg, gN, bi, gcd1, dLt, setF, div1, List.lookup, e]
  simp only [m_Ratio_init, fnQ]
  rw [if_pos (by rfl)]
  show (match b_Ratio_init [.ow (some 0) (.i 0 []), .sh (.int h), .sh (.int 1), .no] with | .ok (.rt d) ε => outQ d ε | .ok .nx ε => outQ .non ε | .ex c fs _ => .rse c fs | _ => .bot) = _
  rw [st1]
  rfl
theorem mk_ok (h : Int) : mk_Ratio [.int h, .int 1] = .ret (rat h) := by
  simp [mk_Ratio, EV.mk, init_ok]
theorem abs_ok (h : Int) : bAbs [.int h] = some (.int (h.natAbs : Int)) := by
  have : (if h < 0 then -h else h) = (h.natAbs : Int) := by split <;> omega
  simp [bAbs, this]
theorem lowest_ok (h : Int) : m__law_lowest [.int h, .int 1] = .ret (pr h) := by
  have r : (EV.iRng1 (aCons (bin dAdd (bin dMul (cC (.int 2)) (un bBits (nm 3))) (cC (.int 2))) aNil)) [.sh (.int h), .sh (.int 1), .sh (.int (h.natAbs : Int)), .sh (.int 1), .no, .no] = .ok [.int 0, .int 1, .int 2, .int 3] [.sh (.int h), .sh (.int 1), .sh (.int (h.natAbs : Int)), .sh (.int 1), .no, .no] := rfl
  have e1 : (asg (gN 2) (bi bAbs (aCons (nm 0) aNil))) [.sh (.int h), .sh (.int 1), .no, .no, .no, .no] = .ok .nx [.sh (.int h), .sh (.int 1), .sh (.int (h.natAbs : Int)), .no, .no, .no] := by
    simp [asg, gN, bi, aCons, aNil, nm, abs_ok]
  have e2 : (asg (gN 3) (bi bAbs (aCons (nm 1) aNil))) [.sh (.int h), .sh (.int 1), .sh (.int (h.natAbs : Int)), .no, .no, .no] = .ok .nx [.sh (.int h), .sh (.int 1), .sh (.int (h.natAbs : Int)), .sh (.int 1), .no, .no] := rfl
  have h5 : b__law_lowest [.sh (.int h), .sh (.int 1), .no, .no, .no, .no] = .ok (.rt (pr h)) [.sh (.int h), .sh (.int 1), .sh (.int 1), .sh (.int 0), .sh (.int 1), .sh (.int 0)] := by
    unfold b__law_lowest
    rw [seq_nx e1, seq_nx e2]
    simp [EV.seq, EV.forS, r, forL, gN, EV.ifS, tB, bin, nm, cC, sNx, sBr, asg, bi, bInt, aCons, aNil, mod1, dLt, EV.ret]
    rw [tupE_ok (xs := [.int h, .int 1]) (ε' := [.sh (.int h), .sh (.int 1), .sh (.int 1), .sh (.int 0), .sh (.int 1), .sh (.int 0)]) (by simp [aCons, aNil, bin, nm, div1]) (by simp)]
    rfl
  exact fn_ret rfl h5
theorem shp_pr (h : Int) : shp (toP (pr h)) = true := rfl
theorem dNe_pr (h : Int) : dNe (pr h) (pr h) = some (.bl false) := by
  have : PyData.eqv (toP (pr h)) (toP (pr h)) = true := by simp [toP, toPs, PyData.eqv, PyData.eqvAll]
  unfold dNe
  rw [if_pos ⟨shp_pr h, shp_pr h⟩, this]
  rfl
theorem pair_ok (h : Int) : m__law_pair [rat h] = .ret (pr h) := by
  have h5 : b__law_pair [.sh (rat h), .no, .no] = .ok (.rt (pr h)) [.sh (rat h), .sh (.int h), .sh (.int 1)] := by
    have e : tupE (aCons (nm 1) (aCons (nm 2) aNil)) [.sh (rat h), .sh (.int h), .sh (.int 1)] = .ok (pr h) [.sh (rat h), .sh (.int h), .sh (.int 1)] := tupE_ok (xs := [.int h, .int 1]) rfl (by simp)
    simp [EV.seq, EV.ifS, tOr, tNot, tT, bi, bIsC, aCons, aNil, nm, tru, sNx, asg, fld, ix_top, ix_bottom, gN, EV.call, is_int_ok, FR.toE, bin, cC, tB, dLt, lowest_ok, e, dNe_pr, EV.ret]
  exact fn_ret rfl h5
theorem toPs_map : ∀ xs : List D, toPs xs = xs.map toP
  | [] => rfl
  | x :: xs => by rw [toPs, toPs_map xs]; rfl
theorem lay_pr : ∀ hs : List Int, PyData.canLayAll0 (toPs (hs.map pr)) = true
  | [] => rfl
  | h :: hs => by
    show (PyData.canLay0 (toP (pr h)) && PyData.canLayAll0 (toPs (hs.map pr))) = true
    rw [lay_pr hs]
    rfl
theorem dep_pr : ∀ hs : List Int, PyData.depthAll (toPs (hs.map pr)) ≤ 1
  | [] => by decide
  | h :: hs => by
    show max (PyData.depth (toP (pr h))) (PyData.depthAll (toPs (hs.map pr))) ≤ 1
    exact Nat.max_le.mpr ⟨Nat.le_refl 1, dep_pr hs⟩
theorem lay_int : ∀ hs : List Int, PyData.canLayAll0 (toPs (hs.map .int)) = true
  | [] => rfl
  | h :: hs => by
    show (PyData.canLay0 (toP (.int h)) && PyData.canLayAll0 (toPs (hs.map .int))) = true
    rw [lay_int hs]
    rfl
theorem dep_int : ∀ hs : List Int, PyData.depthAll (toPs (hs.map .int)) ≤ 0
  | [] => by decide
  | h :: hs => by
    show max (PyData.depth (toP (.int h))) (PyData.depthAll (toPs (hs.map .int))) ≤ 0
    exact Nat.max_le.mpr ⟨Nat.le_refl 0, dep_int hs⟩
theorem shp_int (hs : List Int) : shp (toP (.lst (hs.map .int))) = true := by
  show (PyData.canLayAll0 (toPs (hs.map .int)) && decide (PyData.depthAll (toPs (hs.map .int)) + 1 ≤ 64)) = true
  have := dep_int hs
  rw [lay_int, decide_eq_true (by omega)]
  rfl
theorem eqv_int : ∀ hs ks : List Int, PyData.eqvAll (toPs (hs.map .int)) (toPs (ks.map .int)) = decide (hs = ks)
  | [], [] => by simp [toPs, PyData.eqvAll]
  | [], k :: ks => by simp [toPs, PyData.eqvAll]
  | h :: hs, [] => by simp [toPs, PyData.eqvAll]
  | h :: hs, k :: ks => by
    show (PyData.eqv (.int h) (.int k) && PyData.eqvAll (toPs (hs.map .int)) (toPs (ks.map .int))) = _
    rw [eqv_int hs ks]
    simp [PyData.eqv]
    rfl
theorem dNe_ints (hs ks : List Int) : dNe (.lst (hs.map .int)) (.lst (ks.map .int)) = some (.bl (!decide (hs = ks))) := by
  unfold dNe
  rw [if_pos ⟨shp_int hs, shp_int ks⟩]
  show some (D.bl (!(PyData.eqvAll (toPs (hs.map .int)) (toPs (ks.map .int))))) = _
  rw [eqv_int]
theorem dEq_ints (hs ks : List Int) : dEq (.lst (hs.map .int)) (.lst (ks.map .int)) = some (.bl (decide (hs = ks))) := by
  unfold dEq
  rw [if_pos ⟨shp_int hs, shp_int ks⟩]
  show some (D.bl (PyData.eqvAll (toPs (hs.map .int)) (toPs (ks.map .int)))) = _
  rw [eqv_int]
theorem none_pr (hs : List Int) : dIn .non (.lst (hs.map pr)) = some (.bl false) := by
  have h1 : shp (toP (.lst (hs.map pr))) = true := by
    show (PyData.canLayAll0 (toPs (hs.map pr)) && decide (PyData.depthAll (toPs (hs.map pr)) + 1 ≤ 64)) = true
    have := dep_pr hs
    rw [lay_pr, decide_eq_true (by omega)]
    rfl
  have h2 : ((toPs (hs.map pr)).any fun z => PyData.eqv z (toP .non)) = false := by
    rw [toPs_map, List.any_eq_false]
    intro z hz
    obtain ⟨d, hd, rfl⟩ := List.mem_map.mp hz
    obtain ⟨h, _, rfl⟩ := List.mem_map.mp hd
    simp [toP, PyData.eqv]
  show (if shp (toP .non) = true ∧ shp (toP (.lst (hs.map pr))) = true then some (D.bl ((toPs (hs.map pr)).any fun z => PyData.eqv z (toP .non))) else none) = _
  rw [if_pos ⟨rfl, h1⟩, h2]
theorem lc_map {own : List Nat} {fi : FA} {h : FG} {fe : FE} {ε ε1 : Env} {items : List D} {f : D → D} (hi : fi ε = .ok items ε1) (hl : items.length ≤ 1000000)
    (hb : ∀ x ∈ items, ∃ ε2 ε3, h x (wipeE ε1 own) = some ε2 ∧ fe ε2 = .ok (f x) ε3 ∧ wipeE ε3 own = wipeE ε1 own) : EV.lc own fi h EV.tYes fe ε = .ok (.l (items.map f)) (backE ε1 (wipeE ε1 own) own) :=
  lc_ok hi hl (lcL_map fun x hx => by
    obtain ⟨ε2, ε3, h1, h2, h3⟩ := hb x hx
    exact ⟨ε2, ε2, ε3, h1, rfl, h2, h3⟩)
theorem pairs_ok {hs : List Int} (hl : hs.length ≤ 1000000) : m__law_pairs [.tup (hs.map rat)] = .ret (.lst (hs.map pr)) := by
  have e1 : (EV.lc [2] (iSeq (nm 0)) (gN 2) EV.tYes (EV.call m__law_pair (aCons (nm 2) aNil))) [.sh (.tup (hs.map rat)), .no, .no] = .ok (.l (hs.map pr)) [.sh (.tup (hs.map rat)), .no, .no] := by
    refine (lc_map (fi := (iSeq (nm 0))) (f := fun d => match d with | .ins _ [.int h, _] => pr h | d => d) (ε1 := [.sh (.tup (hs.map rat)), .no, .no]) (items := hs.map rat) rfl (by simpa using hl) ?_).trans ?_
    · intro x hx
      obtain ⟨h, _, rfl⟩ := List.mem_map.mp hx
      refine ⟨[.sh (.tup (hs.map rat)), .no, .sh (rat h)], [.sh (.tup (hs.map rat)), .no, .sh (rat h)], rfl, ?_, rfl⟩
      simp [EV.call, aCons, aNil, nm, pair_ok, FR.toE]
    · rw [List.map_map]
      rfl
  have h5 : b__law_pairs [.sh (.tup (hs.map rat)), .no, .no] = .ok (.rt (.lst (hs.map pr))) [.sh (.tup (hs.map rat)), .sh (.lst (hs.map pr)), .no] := by
    simp [EV.seq, EV.ifS, tNot, tT, bi, bIsTy, isTy, aCons, aNil, nm, tru, sNx, asgO, e1, EV.ret, ifE, tB, bin, cC, none_pr, O.toD?]
  exact fn_ret rfl h5
theorem whole_ok {hs : List Int} (hl : hs.length ≤ 1000000) : m__law_whole [.tup (hs.map rat)] = .rto (.l (hs.map .int)) := by
  have e1 : (EV.lc [2] (iSeq (nm 1)) (gN 2) EV.tYes (ifE (tB (bin dEq (ixN 2 (cC (.int 1))) (cC (.int 1)))) (ixN 2 (cC (.int 0))) (cC .non))) [.sh (.tup (hs.map rat)), .sh (.lst (hs.map pr)), .no] = .ok (.l (hs.map .int)) [.sh (.tup (hs.map rat)), .sh (.lst (hs.map pr)), .no] := by
    refine (lc_map (fi := (iSeq (nm 1))) (f := fun d => match d with | .tup [.int h, _] => .int h | d => d) (ε1 := [.sh (.tup (hs.map rat)), .sh (.lst (hs.map pr)), .no]) (items := hs.map pr) rfl (by simpa using hl) ?_).trans ?_
    · intro x hx
      obtain ⟨h, _, rfl⟩ := List.mem_map.mp hx
      exact ⟨[.sh (.tup (hs.map rat)), .sh (.lst (hs.map pr)), .sh (pr h)], [.sh (.tup (hs.map rat)), .sh (.lst (hs.map pr)), .sh (pr h)], rfl, rfl, rfl⟩
    · rw [List.map_map]
      rfl
  have h5 : b__law_whole [.sh (.tup (hs.map rat)), .no, .no] = .ok (.ro (.l (hs.map .int))) [.sh (.tup (hs.map rat)), .sh (.lst (hs.map pr)), .no] := by
    have e2 : dIsN (.lst (hs.map pr)) .non = some (.bl false) := rfl
    simp [EV.seq, EV.ifS, EV.call, aCons, aNil, nm, tru, sNx, asg, gN, pairs_ok hl, FR.toE, tB, bin, cC, e2, retO, e1]
  exact fn_rto rfl h5
theorem ratios_ok {hs : List Int} (hl : hs.length ≤ 1000000) : m_ratios [.lst (hs.map .int), .int 1] = .ret (.tup (hs.map rat)) := by
  have e1 : (EV.lc [2] (iSeq (nm 0)) (gN 2) EV.tYes (EV.call mk_Ratio (aCons (nm 2) (aCons (nm 1) aNil)))) [.sh (.lst (hs.map .int)), .sh (.int 1), .no] = .ok (.l (hs.map rat)) [.sh (.lst (hs.map .int)), .sh (.int 1), .no] := by
    refine (lc_map (fi := (iSeq (nm 0))) (f := fun d => match d with | .int h => rat h | d => d) (ε1 := [.sh (.lst (hs.map .int)), .sh (.int 1), .no]) (items := hs.map .int) rfl (by simpa using hl) ?_).trans ?_
    · intro x hx
      obtain ⟨h, _, rfl⟩ := List.mem_map.mp hx
      refine ⟨[.sh (.lst (hs.map .int)), .sh (.int 1), .sh (.int h)], [.sh (.lst (hs.map .int)), .sh (.int 1), .sh (.int h)], rfl, ?_, rfl⟩
      simp [EV.call, aCons, aNil, nm, mk_ok, FR.toE]
    · rw [List.map_map]
      rfl
  have h5 : b_ratios [.sh (.lst (hs.map .int)), .sh (.int 1), .no] = .ok (.rt (.tup (hs.map rat))) [.sh (.lst (hs.map .int)), .sh (.int 1), .no] := by
    simp [EV.ret, bi, aCons, aNil, frz, e1, O.toD?, bTuple]
  exact fn_ret rfl h5
/-- a def's outcome is the list of these ints -/
def IsRow (r : FR) (hs : List Int) : Prop := r = .rto (.l (hs.map .int)) ∨ r = .ret (.lst (hs.map .int))
theorem call_row {m : List D → FR} {fr : FA} {ε ε1 : Env} {xs : List D} {hs : List Int} (h1 : fr ε = .ok xs ε1) (h2 : IsRow (m xs) hs) : EV.call m fr ε = .ok (.lst (hs.map .int)) ε1 := by
  rcases h2 with h2 | h2 <;> simp [EV.call, h1, h2, FR.toE, O.toD?]
theorem factor_ok {hs : List Int} {n : Int} (hl : hs.length ≤ 1000000) (ht : IsRow (m_round_tops [.int n]) hs) : m_round_factor [.int n] = .ret (.tup (hs.map rat)) := by
  have e : EV.call m_round_tops (aCons (nm 0) aNil) [.sh (.int n)] = .ok (.lst (hs.map .int)) [.sh (.int n)] := call_row rfl ht
  have h5 : b_round_factor [.sh (.int n)] = .ok (.rt (.tup (hs.map rat))) [.sh (.int n)] := by
    have e2 : EV.call m_ratios (aCons (EV.call m_round_tops (aCons (nm 0) aNil)) (aCons (cC (.int 1)) aNil)) [.sh (.int n)] = .ok (.tup (hs.map rat)) [.sh (.int n)] := by
      have e3 : (aCons (EV.call m_round_tops (aCons (nm 0) aNil)) (aCons (cC (.int 1)) aNil)) [.sh (.int n)] = .ok [.lst (hs.map .int), .int 1] [.sh (.int n)] := by
        simp [aCons, aNil, cC] at e ⊢
        simp [e]
      simp [EV.call, e3, ratios_ok hl, FR.toE]
    simp [EV.ret, e2]
  exact fn_ret rfl h5
/-! turned -/
theorem number_ok (h : Int) : m_number [rat h] = .ret (rat h) := rfl
theorem whl_stop {t : FT} {body : FS} {n : Nat} {ε ε1 : Env} (h : t ε = .ok false ε1) : EV.whl t body (n + 1) ε = .ok .nx ε1 := by simp [EV.whl, h]
theorem stripped_ok {ks : List Int} {x : Int} (hl : (ks ++ [x]).length ≤ 1000000) (h0 : x ≠ 0) : m_stripped [.lst ((ks ++ [x]).map rat)] = .ret (.tup ((ks ++ [x]).map rat)) := by
  have hn : ((ks ++ [x]).map rat).length = ks.length + 1 := by simp
  have hx : ((ks ++ [x]).map rat)[ks.length]? = some (rat x) := by simp
  generalize (ks ++ [x]).map rat = xs at hn hx
  have e1 : (asg (gN 1) (lenN 0)) [.sh (.lst xs), .no] = .ok .nx [.sh (.lst xs), .sh (.int ((ks.length : Int) + 1))] := by
    simp [asg, lenN, bLen, gN, len_eq, hn]
  have e2 : (tAnd (tT (nm 1)) (tB (bin dEq (fld ix_top (ixN 0 (bin dSub (nm 1) (cC (.int 1))))) (cC (.int 0))))) [.sh (.lst xs), .sh (.int ((ks.length : Int) + 1))] = .ok false [.sh (.lst xs), .sh (.int ((ks.length : Int) + 1))] := by
    have h1 : (((ks.length : Int) + 1) != 0) = true := by
      rw [bne_iff_ne]
      omega
    have h2 : dSub (.int ((ks.length : Int) + 1)) (.int 1) = some (.int (ks.length : Int)) := by
      simp only [dSub, Option.some.injEq, D.int.injEq]
      omega
    have h3 : dIx (.lst xs) (.int (ks.length : Int)) = some (rat x) := by
      show getN xs (ks.length : Int) = _
      rw [getN_nat, hx]
    have h4 : (x == 0) = false := by simpa using h0
    simp [tAnd, tT, nm, tru, h1, tB, bin, fld, ixN, has, cC, h2, h3, ix_top, h4]
  have e3 : dSl (.lst xs) none (some ((ks.length : Int) + 1)) = some (.lst xs) := by
    have : cutN xs none (some ((ks.length : Int) + 1)) = xs := by
      have h1 : slIx xs.length 0 none = 0 := rfl
      have h2 : slIx xs.length xs.length (some ((ks.length : Int) + 1)) = xs.length := by
        unfold slIx
        simp only [hn]
        split <;> omega
      unfold cutN
      rw [h1, h2]
      simp
    simp [dSl, this]
  have h5 : b_stripped [.sh (.lst xs), .no] = .ok (.rt (.tup xs)) [.sh (.lst xs), .sh (.int ((ks.length : Int) + 1))] := by
    unfold b_stripped
    rw [seq_nx e1, seq_nx (whl_stop (n := 999999) e2)]
    simp [EV.ret, bi, aCons, aNil, slE, nm, pNo, pSo, e3, bTuple]
  exact fn_ret rfl h5
theorem forL_keep {h : FG} {body : FS} {E : Slot → Env} : ∀ {xs : List D}, (∀ x ∈ xs, ∀ s, ∃ ε1 s', h x (E s) = some ε1 ∧ body ε1 = .ok .nx (E s')) → ∀ s, ∃ s', forL h body xs (E s) = .ok .nx (E s')
  | [], _, s => ⟨s, rfl⟩
  | x :: xs, H, s => by
    obtain ⟨ε1, s1, h1, h2⟩ := H x (by simp) s
    obtain ⟨s2, h3⟩ := forL_keep (h := h) (body := body) (E := E) (xs := xs) (fun y hy => H y (by simp [hy])) s1
    exact ⟨s2, by simp [forL, h1, h2, h3]⟩
theorem tor_ok {hs : List Int} (hl : hs.length ≤ 1000000) (hb : ∀ h ∈ hs, bits h ≤ 1000) : m_tops_of_ratios [.tup (hs.map rat)] = .ret (.tup [.lst (hs.map .int), .int 1]) := by
  have e1 : (asg (gN 1) (cC (.int 1))) [.sh (.tup (hs.map rat)), .no, .no] = .ok .nx [.sh (.tup (hs.map rat)), .sh (.int 1), .no] := rfl
  have el : bLcm [.int 1, .int 1] = some (.int 1) := by simp [bLcm, log1]
  obtain ⟨s', e2⟩ : ∃ s', (EV.forS (iSeq (nm 0)) (gN 2) (asg (gN 1) (bi bLcm (aCons (nm 1) (aCons (fld ix_bottom (nm 2)) aNil))))) [.sh (.tup (hs.map rat)), .sh (.int 1), .no] = .ok .nx [.sh (.tup (hs.map rat)), .sh (.int 1), s'] := by
    refine forL_keep (E := fun s => [.sh (.tup (hs.map rat)), .sh (.int 1), s]) (xs := hs.map rat) (fun x hx s => ?_) .no
    obtain ⟨h, _, rfl⟩ := List.mem_map.mp hx
    refine ⟨[.sh (.tup (hs.map rat)), .sh (.int 1), .sh (rat h)], .sh (rat h), rfl, ?_⟩
    simp [asg, bi, aCons, aNil, nm, fld, ix_bottom, el, gN]
  have e3 : (EV.lc [2] (iSeq (nm 0)) (gN 2) EV.tYes (bin dMul (fld ix_top (nm 2)) (bin dDiv (nm 1) (fld ix_bottom (nm 2))))) [.sh (.tup (hs.map rat)), .sh (.int 1), s'] = .ok (.l (hs.map .int)) (backE [.sh (.tup (hs.map rat)), .sh (.int 1), s'] [.sh (.tup (hs.map rat)), .sh (.int 1), .no] [2]) := by
    refine (lc_map (fi := iSeq (nm 0)) (f := fun d => match d with | .ins _ [.int h, _] => .int h | d => d) (ε1 := [.sh (.tup (hs.map rat)), .sh (.int 1), s']) (items := hs.map rat) rfl (by simpa using hl) ?_).trans ?_
    · intro x hx
      obtain ⟨h, hh, rfl⟩ := List.mem_map.mp hx
      refine ⟨[.sh (.tup (hs.map rat)), .sh (.int 1), .sh (rat h)], [.sh (.tup (hs.map rat)), .sh (.int 1), .sh (rat h)], rfl, ?_, rfl⟩
      have b1 : bits 1 = 1 := by decide +kernel
      have := hb h hh
      have m : dMul (.int h) (.int 1) = some (.int h) := by
        rw [mul_ok (by omega), Int.mul_one]
      simp [bin, fld, ix_top, ix_bottom, nm, div1, m]
    · rw [List.map_map]
      rfl
  obtain ⟨b, hbk⟩ : ∃ b, backE [.sh (.tup (hs.map rat)), .sh (.int 1), s'] [.sh (.tup (hs.map rat)), .sh (.int 1), .no] [2] = [.sh (.tup (hs.map rat)), .sh (.int 1), b] := ⟨_, rfl⟩
  rw [hbk] at e3
  have h5 : b_tops_of_ratios [.sh (.tup (hs.map rat)), .no, .no] = .ok (.rt (.tup [.lst (hs.map .int), .int 1])) [.sh (.tup (hs.map rat)), .sh (.int 1), b] := by
    unfold b_tops_of_ratios
    rw [seq_nx e1, seq_nx e2]
    unfold EV.ret
    rw [tupE_ok (xs := [.lst (hs.map .int), .int 1]) (ε' := [.sh (.tup (hs.map rat)), .sh (.int 1), b]) (by simp [aCons, aNil, frz, e3, O.toD?, nm]) (by simp)]
    rfl
  exact fn_ret rfl h5
def alt : Nat → List Int → List Int
  | _, [] => []
  | k, h :: hs => (if k % 2 = 0 then h else -h) :: alt (k + 1) hs
theorem alt_len : ∀ (k : Nat) (hs : List Int), (alt k hs).length = hs.length
  | _, [] => rfl
  | k, h :: hs => by simp [alt, alt_len (k + 1) hs]
theorem alt_get : ∀ (k : Nat) (hs : List Int) (i : Nat) (h : i < hs.length), (alt k hs)[i]? = some (if (k + i) % 2 = 0 then hs[i] else -hs[i])
  | _, [], i, h => absurd h (by simp)
  | k, x :: hs, 0, h => by simp [alt]
  | k, x :: hs, i + 1, h => by
    have e : k + 1 + i = k + (i + 1) := by omega
    simp only [alt, List.getElem?_cons_succ, List.getElem_cons_succ]
    rw [alt_get (k + 1) hs i (by simpa using h), e]
def turnD : D → D
  | .tup [.int (.ofNat i), .int h] => if i % 2 = 0 then .int h else .int (-h)
  | d => d
theorem pair_alt : ∀ (k : Nat) (hs : List Int), (pairL k (hs.map .int)).map turnD = (alt k hs).map .int
  | _, [] => rfl
  | k, h :: hs => by
    show (if k % 2 = 0 then D.int h else .int (-h)) :: (pairL (k + 1) (hs.map .int)).map turnD = .int (if k % 2 = 0 then h else -h) :: (alt (k + 1) hs).map .int
    rw [pair_alt (k + 1) hs]
    split <;> rfl
theorem mem_pair : ∀ {k : Nat} {hs : List Int} {x : D}, x ∈ pairL k (hs.map .int) → ∃ (i : Nat) (h : Int), x = .tup [.int i, .int h]
  | _, [], x, hx => absurd hx (by simp [pairL])
  | k, h :: hs, x, hx => by
    simp only [List.map_cons, pairL, List.mem_cons] at hx
    rcases hx with rfl | hx
    · exact ⟨k, h, rfl⟩
    · exact mem_pair hx
theorem pairL_len : ∀ {k : Nat} {xs : List D}, (pairL k xs).length = xs.length
  | _, [] => rfl
  | k, x :: xs => by simp [pairL, pairL_len]
theorem tturn_ok {hs : List Int} (hl : hs.length ≤ 1000000) : m_tops_turned [.lst (hs.map .int)] = .rto (.l ((alt 0 hs).map .int)) := by
  have e1 : (EV.lc [1, 2] (EV.iEnum (nm 0)) (gT (gsCons (gN 1) (gsCons (gN 2) gsNil))) EV.tYes (ifE (tT (bin dAnd1 (nm 1) (cC (.int 1)))) (un dNeg (nm 2)) (nm 2))) [.sh (.lst (hs.map .int)), .no, .no] = .ok (.l ((alt 0 hs).map .int)) [.sh (.lst (hs.map .int)), .no, .no] := by
    refine (lc_map (fi := EV.iEnum (nm 0)) (f := turnD) (ε1 := [.sh (.lst (hs.map .int)), .no, .no]) (items := pairL 0 (hs.map .int)) rfl (by rw [pairL_len]; simpa using hl) ?_).trans ?_
    · intro x hx
      obtain ⟨i, h, rfl⟩ := mem_pair hx
      refine ⟨[.sh (.lst (hs.map .int)), .sh (.int i), .sh (.int h)], [.sh (.lst (hs.map .int)), .sh (.int i), .sh (.int h)], rfl, ?_, rfl⟩
      have ha : dAnd1 (.int (i : Int)) (.int 1) = some (.int ((i % 2 : Nat) : Int)) := rfl
      by_cases hi : i % 2 = 0
      · have ht : turnD (.tup [.int (i : Int), .int h]) = .int h := if_pos hi
        simp [ifE, tT, bin, nm, cC, ha, hi, tru, ht]
      · have h1 : i % 2 = 1 := by omega
        have ht : turnD (.tup [.int (i : Int), .int h]) = .int (-h) := if_neg hi
        simp [ifE, tT, bin, nm, cC, ha, h1, tru, ht, un, dNeg]
    · rw [pair_alt]
      rfl
  have h5 : b_tops_turned [.sh (.lst (hs.map .int)), .no, .no] = .ok (.ro (.l ((alt 0 hs).map .int))) [.sh (.lst (hs.map .int)), .no, .no] := by
    simp [retO, e1]
  exact fn_rto rfl h5
theorem polynomial_ok {hs : List Int} (hl : hs.length ≤ 1000000) (hs1 : m_stripped [.lst (hs.map rat)] = .ret (.tup (hs.map rat))) : m_polynomial [.tup (hs.map rat)] = .ret (.tup (hs.map rat)) := by
  have e1 : (EV.lc [3] (iSeq (nm 0)) (gN 3) EV.tYes (EV.call m_number (aCons (nm 3) aNil))) [.sh (.tup (hs.map rat)), .no, .no, .no] = .ok (.l (hs.map rat)) [.sh (.tup (hs.map rat)), .no, .no, .no] := by
    refine (lc_map (fi := (iSeq (nm 0))) (f := fun d => d) (ε1 := [.sh (.tup (hs.map rat)), .no, .no, .no]) (items := hs.map rat) rfl (by simpa using hl) ?_).trans ?_
    · intro x hx
      obtain ⟨h, _, rfl⟩ := List.mem_map.mp hx
      refine ⟨[.sh (.tup (hs.map rat)), .no, .no, .sh (rat h)], [.sh (.tup (hs.map rat)), .no, .no, .sh (rat h)], rfl, ?_, rfl⟩
      simp [EV.call, aCons, aNil, nm, number_ok, FR.toE]
    · rw [List.map_id']
      rfl
  have h5 : b_polynomial [.sh (.tup (hs.map rat)), .no, .no, .no] = .ok (.rt (.tup (hs.map rat))) [.sh (.tup (hs.map rat)), .no, .no, .no] := by
    simp [EV.seq, EV.ifS, tT, bi, bIsTy, isTy, aCons, aNil, nm, tru, sNx, EV.ret, EV.call, frz, e1, O.toD?, hs1, FR.toE]
  exact fn_ret rfl h5
theorem turned_ok {ks : List Int} {x : Int} (hl : (ks ++ [x]).length ≤ 1000000) (h0 : x ≠ 0) (hb : ∀ h ∈ ks ++ [x], bits h ≤ 1000) : m_turned [.tup ((ks ++ [x]).map rat)] = .ret (.tup ((alt 0 (ks ++ [x])).map rat)) := by
  have p := polynomial_ok hl (stripped_ok hl h0)
  generalize ks ++ [x] = hs at *
  have e1 : (asg (gT (gsCons (gN 1) (gsCons (gN 2) gsNil))) (EV.call m_tops_of_ratios (aCons (EV.call m_polynomial (aCons (nm 0) aNil)) aNil))) [.sh (.tup (hs.map rat)), .no, .no] = .ok .nx [.sh (.tup (hs.map rat)), .sh (.lst (hs.map .int)), .sh (.int 1)] := by
    simp [asg, EV.call, aCons, aNil, nm, p, FR.toE, tor_ok hl hb, gT, gsCons, gsNil, gN]
  have h5 : b_turned [.sh (.tup (hs.map rat)), .no, .no] = .ok (.rt (.tup ((alt 0 hs).map rat))) [.sh (.tup (hs.map rat)), .sh (.lst (hs.map .int)), .sh (.int 1)] := by
    unfold b_turned
    rw [seq_nx e1]
    simp [EV.ret, EV.call, aCons, aNil, nm, tturn_ok hl, FR.toE, O.toD?, ratios_ok (hs := alt 0 hs) (by rw [alt_len]; exact hl)]
  exact fn_ret rfl h5
theorem altlc_ok {n : Int} {u : Slot} {hs : List Int} (hl : hs.length ≤ 1000000) : (EV.lc [3] (EV.iRng1 (aCons (lenN 1) aNil)) (gN 3) EV.tYes (ifE (tB (bin dEq (bin dMod (nm 3) (cC (.int 2))) (cC (.int 0)))) (ixN 1 (nm 3)) (un dNeg (ixN 1 (nm 3))))) [.sh (.int n), .sh (.lst (hs.map .int)), u, .no] =
    .ok (.l ((alt 0 hs).map .int)) [.sh (.int n), .sh (.lst (hs.map .int)), u, .no] := by
  have r : (EV.iRng1 (aCons (lenN 1) aNil)) [.sh (.int n), .sh (.lst (hs.map .int)), u, .no] = .ok (rngL 0 ((hs.length : Int)).toNat) [.sh (.int n), .sh (.lst (hs.map .int)), u, .no] :=
    rng1_ok (by simp [aCons, aNil, lenN, bLen, len_eq]) (by omega) (by omega)
  refine (lc_map (fi := EV.iRng1 (aCons (lenN 1) aNil)) (f := onI fun i => .int (((alt 0 hs)[i.toNat]?).getD 0)) (ε1 := [.sh (.int n), .sh (.lst (hs.map .int)), u, .no]) r (by rw [rngL_length]; omega) ?_).trans ?_
  · intro x hx
    obtain ⟨i, hi, rfl⟩ := mem_rngL hx
    have hi' : i < hs.length := by omega
    refine ⟨[.sh (.int n), .sh (.lst (hs.map .int)), u, .sh (.int (0 + (i : Int)))], [.sh (.int n), .sh (.lst (hs.map .int)), u, .sh (.int (0 + (i : Int)))], rfl, ?_, rfl⟩
    have hg : dIx (.lst (hs.map .int)) (.int (i : Int)) = some (.int hs[i]) := by
      show getN (hs.map D.int) (i : Int) = _
      rw [getN_nat, List.getElem?_map, List.getElem?_eq_getElem hi']
      rfl
    have l2 : Nat.log2 2 = 1 := by decide +kernel
    have hm : dMod (.int (i : Int)) (.int 2) = some (.int ((i : Int) % 2)) := by
      simp [dMod, l2, Int.fmod_eq_emod_of_nonneg]
    have ha := alt_get 0 hs i hi'
    simp only [Int.zero_add, onI, Int.toNat_natCast, ha, Nat.zero_add]
    by_cases he : i % 2 = 0
    · have h1 : ((i : Int) % 2 == 0) = true := by
        rw [beq_iff_eq]
        omega
      simp [ifE, tB, bin, nm, cC, hm, h1, ixN, has, hg, he]
    · have h1 : ((i : Int) % 2 == 0) = false := by
        rw [beq_eq_false_iff_ne]
        omega
      simp [ifE, tB, bin, nm, cC, hm, h1, ixN, has, hg, he, un, dNeg]
  · have e : (rngL 0 ((hs.length : Int)).toNat).map (onI fun i => .int (((alt 0 hs)[i.toNat]?).getD 0)) = (alt 0 hs).map .int := by
      rw [rngL_map, Int.toNat_natCast, ← range_get, alt_len]
      simp
    rw [e]
    rfl
theorem hl1 {n : Int} {hs : List Int} (hd : IsRow (m__law_due [.int n]) hs) : (asg (gN 1) (EV.call m__law_due (aCons (nm 0) aNil))) [.sh (.int n), .no, .no, .no] = .ok .nx [.sh (.int n), .sh (.lst (hs.map .int)), .no, .no] := by
  have e : EV.call m__law_due (aCons (nm 0) aNil) [.sh (.int n), .no, .no, .no] = .ok (.lst (hs.map .int)) [.sh (.int n), .no, .no, .no] := call_row rfl hd
  unfold asg
  rw [e]
  rfl
theorem hl2 {n : Int} {hs : List Int} (f : m_round_factor [.int n] = .ret (.tup (hs.map rat))) : (asg (gN 2) (EV.call m_round_factor (aCons (nm 0) aNil))) [.sh (.int n), .sh (.lst (hs.map .int)), .no, .no] = .ok .nx [.sh (.int n), .sh (.lst (hs.map .int)), .sh (.tup (hs.map rat)), .no] := by
  simp [asg, EV.call, aCons, aNil, nm, f, FR.toE, gN]
theorem hl3 {n : Int} {hs : List Int} (w : m__law_whole [.tup (hs.map rat)] = .rto (.l (hs.map .int))) : (tB (bin dNe (EV.call m__law_whole (aCons (nm 2) aNil)) (nm 1))) [.sh (.int n), .sh (.lst (hs.map .int)), .sh (.tup (hs.map rat)), .no] = .ok false [.sh (.int n), .sh (.lst (hs.map .int)), .sh (.tup (hs.map rat)), .no] := by
  simp [tB, bin, EV.call, aCons, aNil, nm, w, FR.toE, O.toD?, dNe_ints]
theorem bin_ok {g : D → D → Option D} {fa fb : FE} {ε ε1 ε2 : Env} {x y z : D} (h1 : fa ε = .ok x ε1) (h2 : fb ε1 = .ok y ε2) (h3 : g x y = some z) : bin g fa fb ε = .ok z ε2 := by simp [bin, h1, h2, h3]
theorem a1_ok {fa : FE} {ε ε1 : Env} {x : D} (h1 : fa ε = .ok x ε1) : aCons fa aNil ε = .ok [x] ε1 := by simp [aCons, aNil, h1]
theorem call_ok {m : List D → FR} {fr : FA} {ε ε1 : Env} {xs : List D} {d : D} (h1 : fr ε = .ok xs ε1) (h2 : m xs = .ret d) : EV.call m fr ε = .ok d ε1 := by simp [EV.call, h1, h2, FR.toE]
theorem call_rto {m : List D → FR} {fr : FA} {ε ε1 : Env} {xs ys : List D} (h1 : fr ε = .ok xs ε1) (h2 : m xs = .rto (.l ys)) : EV.call m fr ε = .ok (.lst ys) ε1 := by simp [EV.call, h1, h2, FR.toE, O.toD?]
theorem frz_ok {f : FO} {ε ε1 : Env} {ys : List D} (h1 : f ε = .ok (.l ys) ε1) : frz f ε = .ok (.lst ys) ε1 := by simp [frz, h1, O.toD?]
theorem tB_ok {fa : FE} {ε ε1 : Env} {b : Bool} (h1 : fa ε = .ok (.bl b) ε1) : tB fa ε = .ok b ε1 := by simp [tB, h1]
theorem dNe_same (hs : List Int) : dNe (.lst (hs.map .int)) (.lst (hs.map .int)) = some (.bl false) := by
  rw [dNe_ints, decide_eq_true rfl]
  rfl
theorem hl4 {n : Int} {hs : List Int} (hl : hs.length ≤ 1000000) (t : m_turned [.tup (hs.map rat)] = .ret (.tup ((alt 0 hs).map rat))) (w2 : m__law_whole [.tup ((alt 0 hs).map rat)] = .rto (.l ((alt 0 hs).map .int))) :
    (tB (bin dNe (EV.call m__law_whole (aCons (EV.call m_turned (aCons (nm 2) aNil)) aNil)) (frz (EV.lc [3] (EV.iRng1 (aCons (lenN 1) aNil)) (gN 3) EV.tYes (ifE (tB (bin dEq (bin dMod (nm 3) (cC (.int 2))) (cC (.int 0)))) (ixN 1 (nm 3)) (un dNeg (ixN 1 (nm 3)))))))) [.sh (.int n), .sh (.lst (hs.map .int)), .sh (.tup (hs.map rat)), .no] = .ok false [.sh (.int n), .sh (.lst (hs.map .int)), .sh (.tup (hs.map rat)), .no] :=
  tB_ok (bin_ok (call_rto (a1_ok (call_ok (a1_ok (x := .tup (hs.map rat)) rfl) t)) w2) (frz_ok (altlc_ok hl)) (dNe_same (alt 0 hs)))
theorem hl5 {n : Int} {hs : List Int} {u v : Slot} (htb : 12 < n ∨ m__law_table [.int n] = .ret (.lst (hs.map .int))) : (EV.ret (eOr (bin dGt (nm 0) (cC (.int 12))) (bin dEq (nm 1) (EV.call m__law_table (aCons (nm 0) aNil))))) [.sh (.int n), .sh (.lst (hs.map .int)), u, v] = .ok (.rt (.bl true)) [.sh (.int n), .sh (.lst (hs.map .int)), u, v] := by
  by_cases hn : 12 < n
  · have : dGt (.int n) (.int 12) = some (.bl true) := by
      show some (D.bl (decide (12 < n))) = _
      rw [decide_eq_true hn]
    simp [EV.ret, eOr, bin, nm, cC, this, tru]
  · have h := htb.resolve_left hn
    have : dGt (.int n) (.int 12) = some (.bl false) := by
      show some (D.bl (decide (12 < n))) = _
      rw [decide_eq_false hn]
    simp [EV.ret, eOr, bin, nm, cC, this, tru, EV.call, aCons, aNil, h, FR.toE, dEq_ints]
theorem hl6 {s t : FT} {ε : Env} {a : FS} (h1 : s ε = .ok false ε) (h2 : t ε = .ok false ε) : EV.ifS (tOr s t) a sNx ε = .ok .nx ε := by
  simp [EV.ifS, tOr, h1, h2, sNx]
theorem hl7 {n : Int} {hs : List Int} (hl : hs.length ≤ 1000000) (f : m_round_factor [.int n] = .ret (.tup (hs.map rat))) (w : m__law_whole [.tup (hs.map rat)] = .rto (.l (hs.map .int))) (t : m_turned [.tup (hs.map rat)] = .ret (.tup ((alt 0 hs).map rat)))
    (w2 : m__law_whole [.tup ((alt 0 hs).map rat)] = .rto (.l ((alt 0 hs).map .int))) (hd : IsRow (m__law_due [.int n]) hs) (htb : 12 < n ∨ m__law_table [.int n] = .ret (.lst (hs.map .int))) :
    b__law_holds [.sh (.int n), .no, .no, .no] = .ok (.rt (.bl true)) [.sh (.int n), .sh (.lst (hs.map .int)), .sh (.tup (hs.map rat)), .no] :=
  (seq_nx (hl1 hd)).trans ((seq_nx (hl2 f)).trans ((seq_nx (hl6 (hl3 w) (hl4 hl t w2))).trans (hl5 htb)))
theorem holds_of {n : Int} {ks : List Int} {x : Int} (hl : (ks ++ [x]).length ≤ 1000000) (h0 : x ≠ 0) (hb : ∀ h ∈ ks ++ [x], bits h ≤ 1000) (ht : IsRow (m_round_tops [.int n]) (ks ++ [x])) (hd : IsRow (m__law_due [.int n]) (ks ++ [x]))
    (htb : 12 < n ∨ m__law_table [.int n] = .ret (.lst ((ks ++ [x]).map .int))) : m__law_holds [.int n] = .ret (.bl true) :=
  fn_ret rfl (hl7 hl (factor_ok hl ht) (whole_ok hl) (turned_ok hl h0 hb) (whole_ok (hs := alt 0 (ks ++ [x])) (by rw [alt_len]; exact hl)) hd htb)
end EV
set_option maxRecDepth 100000
namespace EV
open PySem
noncomputable section
def isT : FR → Bool
  | .ret (.bl true) => true
  | _ => false
theorem isT_ok {r : FR} (h : isT r = true) : r = .ret (.bl true) := by
  unfold isT at h
  split at h
  · rfl
  · cases h
abbrev lawR : FS := (EV.seq (asgO 5 (lstO (aCons (cC (.int 1)) aNil)))
  (EV.seq (EV.forS (EV.iRng2 (aCons (cC (.int 1)) (aCons (bin dAdd (nm 3) (cC (.int 1))) aNil))) (gN 6)
  (EV.ifS (tB (bin dEq (bin dMod (bi bInt (aCons (nm 3) aNil)) (nm 6)) (cC (.int 0))))
  (EV.seq (asg (gN 7) (EV.call m__law_whole (aCons (EV.call m_round_factor (aCons (nm 6) aNil)) aNil)))
  (EV.seq (EV.ifS (tOr (tB (bin dIsN (nm 7) (cC .non))) (tB (bin dIn (cC .non) (nm 7))))
  (EV.ret (cC (.bl false)))
  sNx)
  (EV.seq (asgO 8 (binO dRepO (frz (lstO (aCons (cC (.int 0)) aNil))) (bin dSub (bin dAdd (lenN 5) (lenN 7)) (cC (.int 1)))))
  (EV.seq (EV.forS (EV.iRng1 (aCons (lenN 5) aNil)) (gN 9)
  (EV.forS (EV.iRng1 (aCons (lenN 7) aNil)) (gN 10)
  (setI 8 (bin dAdd (nm 9) (nm 10)) (bin dAdd (ixN 8 (bin dAdd (nm 9) (nm 10))) (bin dMul (ixN 5 (nm 9)) (ixN 7 (nm 10)))))))
  (asg (gN 5) (nm 8))))))
  sNx))
  (EV.ret (bin dEq (nm 5) (bin dAdd (bin dAdd (frz (lstO (aCons (un dNeg (cC (.int 1))) aNil))) (bin dMul (frz (lstO (aCons (cC (.int 0)) aNil))) (bin dSub (nm 3) (cC (.int 1))))) (frz (lstO (aCons (cC (.int 1)) aNil))))))))
def isR : R Fl → Bool
  | .ok (.rt (.bl true)) _ => true
  | _ => false
theorem isR_ok {r : R Fl} (h : isR r = true) : ∃ ε, r = .ok (.rt (.bl true)) ε := by
  unfold isR at h
  split at h
  · exact ⟨_, rfl⟩
  · cases h

def comp (f g : List D → FR) (ds : List D) : FR := match g ds with
  | .ret d => f [d]
  | .rto o => (match o.toD? with
    | some d => f [d]
    | none => .bot)
  | .rse c fs => .rse c fs
  | .bot => .bot
theorem call_call (f g : List D → FR) (fr : FA) : EV.call f (aCons (EV.call g fr) aNil) = EV.call (comp f g) fr := by
  funext ε
  simp only [EV.call, aCons, aNil]
  generalize fr ε = r
  cases r with
  | bot => rfl
  | ex c fs e => rfl
  | ok xs e =>
    simp only [bind_ok, comp]
    generalize g xs = r
    cases r with
    | bot => rfl
    | ret d => rfl
    | rse c fs => rfl
    | rto o =>
      simp only [FR.toE]
      cases o.toD? <;> rfl
def intsOf : List D → Option (List Int)
  | [] => some []
  | .int i :: xs => (match intsOf xs with
    | some ys => some (i :: ys)
    | none => none)
  | _ => none
theorem intsOf_ok : ∀ {xs : List D} {ys : List Int}, intsOf xs = some ys → xs = ys.map .int
  | [], ys, h => by
    cases h
    rfl
  | .int i :: xs, ys, h => by
    simp only [intsOf] at h
    split at h
    · rename_i zs hz
      cases h
      rw [intsOf_ok hz]
      rfl
    · cases h
  | .non :: xs, ys, h => by cases h
  | .bl _ :: xs, ys, h => by cases h
  | .str _ :: xs, ys, h => by cases h
  | .lst _ :: xs, ys, h => by cases h
  | .tup _ :: xs, ys, h => by cases h
  | .ins _ _ :: xs, ys, h => by cases h
  | .scr _ :: xs, ys, h => by cases h
def rowOf : FR → Option (List Int)
  | .rto (.l xs) => intsOf xs
  | .ret (.lst xs) => intsOf xs
  | _ => none
theorem rowOf_ok {r : FR} {ys : List Int} (h : rowOf r = some ys) : IsRow r ys := by
  unfold rowOf at h
  split at h
  · left
    rw [intsOf_ok h]
  · right
    rw [intsOf_ok h]
  · cases h
def facF (ds : List D) : FR := match ds with
  | [.int k] => (match rowOf (m_round_tops [.int k]) with
    | some a => if a.length ≤ 1000000 then .rto (.l (a.map .int)) else comp m__law_whole m_round_factor [.int k]
    | none => comp m__law_whole m_round_factor [.int k])
  | ds => comp m__law_whole m_round_factor ds
theorem facF_eq : facF = comp m__law_whole m_round_factor := by
  funext ds
  unfold facF
  split
  · rename_i k
    split
    · rename_i a ha
      split
      · rename_i hl
        unfold comp
        rw [factor_ok hl (rowOf_ok ha)]
        exact (whole_ok hl).symm
      · rfl
    · rfl
  · rfl
abbrev lawR2 : FS := (EV.seq (asgO 5 (lstO (aCons (cC (.int 1)) aNil)))
  (EV.seq (EV.forS (EV.iRng2 (aCons (cC (.int 1)) (aCons (bin dAdd (nm 3) (cC (.int 1))) aNil))) (gN 6)
  (EV.ifS (tB (bin dEq (bin dMod (bi bInt (aCons (nm 3) aNil)) (nm 6)) (cC (.int 0))))
  (EV.seq (asg (gN 7) (EV.call facF (aCons (nm 6) aNil)))
  (EV.seq (EV.ifS (tOr (tB (bin dIsN (nm 7) (cC .non))) (tB (bin dIn (cC .non) (nm 7))))
  (EV.ret (cC (.bl false)))
  sNx)
  (EV.seq (asgO 8 (binO dRepO (frz (lstO (aCons (cC (.int 0)) aNil))) (bin dSub (bin dAdd (lenN 5) (lenN 7)) (cC (.int 1)))))
  (EV.seq (EV.forS (EV.iRng1 (aCons (lenN 5) aNil)) (gN 9)
  (EV.forS (EV.iRng1 (aCons (lenN 7) aNil)) (gN 10)
  (setI 8 (bin dAdd (nm 9) (nm 10)) (bin dAdd (ixN 8 (bin dAdd (nm 9) (nm 10))) (bin dMul (ixN 5 (nm 9)) (ixN 7 (nm 10)))))))
  (asg (gN 5) (nm 8))))))
  sNx))
  (EV.ret (bin dEq (nm 5) (bin dAdd (bin dAdd (frz (lstO (aCons (un dNeg (cC (.int 1))) aNil))) (bin dMul (frz (lstO (aCons (cC (.int 0)) aNil))) (bin dSub (nm 3) (cC (.int 1))))) (frz (lstO (aCons (cC (.int 1)) aNil))))))))

theorem lawR_eq : lawR = lawR2 := by
  have h : EV.call m__law_whole (aCons (EV.call m_round_factor (aCons (nm 6) aNil)) aNil) = EV.call facF (aCons (nm 6) aNil) := by rw [call_call, facF_eq]
  unfold lawR lawR2
  rw [h]
def chkL1 (n : Nat) (s0 s1 s2 s4 : Slot) : Bool := isR (lawR2 [s0, s1, s2, .sh (.int (n : Int)), s4, .no, .no, .no, .no, .no, .no])
def rowV : FR → Option (List Int)
  | .ret (.lst xs) => intsOf xs
  | _ => none
theorem rowV_ok {r : FR} {ys : List Int} (h : rowV r = some ys) : r = .ret (.lst (ys.map .int)) := by
  unfold rowV at h
  split at h
  · rw [intsOf_ok h]
  · cases h
/-- the last one is not 0, and all are small -/
def endOk : List Int → Bool
  | [] => false
  | [x] => !(x == 0) && decide (x.natAbs < 2 ^ 64)
  | x :: xs => decide (x.natAbs < 2 ^ 64) && endOk xs
theorem endOk_ok : ∀ {xs : List Int}, endOk xs = true → ∃ ks x, xs = ks ++ [x] ∧ x ≠ 0 ∧ ∀ h ∈ xs, h.natAbs < 2 ^ 64
  | [], h => by cases h
  | [x], h => by
    simp only [endOk, Bool.and_eq_true, decide_eq_true_eq] at h
    refine ⟨[], x, rfl, ?_, ?_⟩
    · simpa using h.1
    · intro y hy
      rw [List.mem_singleton.mp hy]
      exact h.2
  | x :: y :: xs, h => by
    have h' : (decide (x.natAbs < 2 ^ 64) && endOk (y :: xs)) = true := h
    rw [Bool.and_eq_true, decide_eq_true_eq] at h'
    obtain ⟨ks, z, e, h1, h2⟩ := endOk_ok h'.2
    refine ⟨x :: ks, z, by rw [e]; rfl, h1, ?_⟩
    intro w hw
    rcases List.mem_cons.mp hw with rfl | hw
    · exact h'.1
    · exact h2 w hw
def sameI : List Int → List Int → Bool
  | [], [] => true
  | x :: xs, y :: ys => x == y && sameI xs ys
  | _, _ => false
theorem sameI_ok : ∀ {xs ys : List Int}, sameI xs ys = true → xs = ys
  | [], [], _ => rfl
  | [], _ :: _, h => by cases h
  | _ :: _, [], h => by cases h
  | x :: xs, y :: ys, h => by
    have h' : (x == y && sameI xs ys) = true := h
    rw [Bool.and_eq_true, beq_iff_eq] at h'
    rw [h'.1, sameI_ok h'.2]
def tabOk (n : Nat) (b : List Int) : Bool := if 12 < n then true else (match rowV (m__law_table [.int (n : Int)]) with
  | some c => sameI c b
  | none => false)
def chkT1 (n : Nat) : Bool := match rowOf (m_round_tops [.int (n : Int)]) with
  | some a => endOk a && decide (a.length ≤ 1000000) && tabOk n a && (match rowOf (m__law_due [.int (n : Int)]) with
    | some b => sameI a b
    | none => false)
  | none => false
theorem chkT1_ok {n : Nat} (h : chkT1 n = true) : ∃ ks x, (ks ++ [x]).length ≤ 1000000 ∧ x ≠ 0 ∧ (∀ h ∈ ks ++ [x], bits h ≤ 1000) ∧ IsRow (m_round_tops [.int (n : Int)]) (ks ++ [x]) ∧
    IsRow (m__law_due [.int (n : Int)]) (ks ++ [x]) ∧ (12 < (n : Int) ∨ m__law_table [.int (n : Int)] = .ret (.lst ((ks ++ [x]).map .int))) := by
  unfold chkT1 at h
  split at h
  · rename_i a ha
    rw [Bool.and_eq_true, Bool.and_eq_true, Bool.and_eq_true, decide_eq_true_eq] at h
    obtain ⟨⟨⟨h1, h2⟩, h3⟩, h4⟩ := h
    split at h4
    · rename_i b hb
      have := sameI_ok h4
      subst this
      obtain ⟨ks, x, rfl, g1, g2⟩ := endOk_ok h1
      refine ⟨ks, x, h2, g1, fun z hz => Nat.le_trans (bits_small (g2 z hz)) (by decide), rowOf_ok ha, rowOf_ok hb, ?_⟩
      unfold tabOk at h3
      split at h3
      · left
        omega
      · right
        split at h3
        · rename_i c hc
          have := sameI_ok h3
          subst this
          exact rowV_ok hc
        · cases h3
    · cases h4
  · cases h
def Up (P : Nat → Prop) (n : Nat) : Prop := ∀ k, 1 ≤ k → k ≤ n → P k
theorem Up.zero {P : Nat → Prop} : Up P 0 := fun k h0 h1 => absurd h0 (by omega)
theorem Up.step {P : Nat → Prop} {n : Nat} (h : Up P n) (h1 : P (n + 1)) : Up P (n + 1) := fun k g0 g1 => by
  by_cases e : k = n + 1
  · rw [e]
    exact h1
  · exact h k g0 (by omega)
def TOk (n : Nat) : Prop := chkT1 n = true
def LOk (n : Nat) : Prop := ∀ s0 s1 s2 s4 : Slot, chkL1 n s0 s1 s2 s4 = true
theorem ut_0 : Up TOk 0 := .zero
theorem ul_0 : Up LOk 0 := .zero
theorem ch_1 : chkT1 1 = true := by kernel_rfl
theorem ut_1 : Up TOk 1 := ut_0.step ch_1
theorem ch_2 : chkT1 2 = true := by kernel_rfl
theorem ut_2 : Up TOk 2 := ut_1.step ch_2
theorem ch_3 : chkT1 3 = true := by kernel_rfl
theorem ut_3 : Up TOk 3 := ut_2.step ch_3
theorem ch_4 : chkT1 4 = true := by kernel_rfl
theorem ut_4 : Up TOk 4 := ut_3.step ch_4
theorem ch_5 : chkT1 5 = true := by kernel_rfl
theorem ut_5 : Up TOk 5 := ut_4.step ch_5
theorem ch_6 : chkT1 6 = true := by kernel_rfl
theorem ut_6 : Up TOk 6 := ut_5.step ch_6
theorem ch_7 : chkT1 7 = true := by kernel_rfl
theorem ut_7 : Up TOk 7 := ut_6.step ch_7
theorem ch_8 : chkT1 8 = true := by kernel_rfl
theorem ut_8 : Up TOk 8 := ut_7.step ch_8
theorem ch_9 : chkT1 9 = true := by kernel_rfl
theorem ut_9 : Up TOk 9 := ut_8.step ch_9
theorem ch_10 : chkT1 10 = true := by kernel_rfl
theorem ut_10 : Up TOk 10 := ut_9.step ch_10
theorem ch_11 : chkT1 11 = true := by kernel_rfl
theorem ut_11 : Up TOk 11 := ut_10.step ch_11
theorem ch_12 : chkT1 12 = true := by kernel_rfl
theorem ut_12 : Up TOk 12 := ut_11.step ch_12
theorem ch_13 : chkT1 13 = true := by kernel_rfl
theorem ut_13 : Up TOk 13 := ut_12.step ch_13
theorem ch_14 : chkT1 14 = true := by kernel_rfl
theorem ut_14 : Up TOk 14 := ut_13.step ch_14
theorem ch_15 : chkT1 15 = true := by kernel_rfl
theorem ut_15 : Up TOk 15 := ut_14.step ch_15
theorem ch_16 : chkT1 16 = true := by kernel_rfl
theorem ut_16 : Up TOk 16 := ut_15.step ch_16
theorem ch_17 : chkT1 17 = true := by kernel_rfl
theorem ut_17 : Up TOk 17 := ut_16.step ch_17
theorem ch_18 : chkT1 18 = true := by kernel_rfl
theorem ut_18 : Up TOk 18 := ut_17.step ch_18
theorem ch_19 : chkT1 19 = true := by kernel_rfl
theorem ut_19 : Up TOk 19 := ut_18.step ch_19
theorem ch_20 : chkT1 20 = true := by kernel_rfl
theorem ut_20 : Up TOk 20 := ut_19.step ch_20
theorem ch_21 : chkT1 21 = true := by kernel_rfl
theorem ut_21 : Up TOk 21 := ut_20.step ch_21
theorem ch_22 : chkT1 22 = true := by kernel_rfl
theorem ut_22 : Up TOk 22 := ut_21.step ch_22
theorem ch_23 : chkT1 23 = true := by kernel_rfl
theorem ut_23 : Up TOk 23 := ut_22.step ch_23
theorem ch_24 : chkT1 24 = true := by kernel_rfl
theorem ut_24 : Up TOk 24 := ut_23.step ch_24
theorem ch_25 : chkT1 25 = true := by kernel_rfl
theorem ut_25 : Up TOk 25 := ut_24.step ch_25
theorem ch_26 : chkT1 26 = true := by kernel_rfl
theorem ut_26 : Up TOk 26 := ut_25.step ch_26
theorem ch_27 : chkT1 27 = true := by kernel_rfl
theorem ut_27 : Up TOk 27 := ut_26.step ch_27
theorem ch_28 : chkT1 28 = true := by kernel_rfl
theorem ut_28 : Up TOk 28 := ut_27.step ch_28
theorem ch_29 : chkT1 29 = true := by kernel_rfl
theorem ut_29 : Up TOk 29 := ut_28.step ch_29
theorem ch_30 : chkT1 30 = true := by kernel_rfl
theorem ut_30 : Up TOk 30 := ut_29.step ch_30
theorem ch_31 : chkT1 31 = true := by kernel_rfl
theorem ut_31 : Up TOk 31 := ut_30.step ch_31
theorem ch_32 : chkT1 32 = true := by kernel_rfl
theorem ut_32 : Up TOk 32 := ut_31.step ch_32
theorem ch_33 : chkT1 33 = true := by kernel_rfl
theorem ut_33 : Up TOk 33 := ut_32.step ch_33
theorem ch_34 : chkT1 34 = true := by kernel_rfl
theorem ut_34 : Up TOk 34 := ut_33.step ch_34
theorem ch_35 : chkT1 35 = true := by kernel_rfl
theorem ut_35 : Up TOk 35 := ut_34.step ch_35
theorem ch_36 : chkT1 36 = true := by kernel_rfl
theorem ut_36 : Up TOk 36 := ut_35.step ch_36
theorem ch_37 : chkT1 37 = true := by kernel_rfl
theorem ut_37 : Up TOk 37 := ut_36.step ch_37
theorem ch_38 : chkT1 38 = true := by kernel_rfl
theorem ut_38 : Up TOk 38 := ut_37.step ch_38
theorem ch_39 : chkT1 39 = true := by kernel_rfl
theorem ut_39 : Up TOk 39 := ut_38.step ch_39
theorem ch_40 : chkT1 40 = true := by kernel_rfl
theorem ut_40 : Up TOk 40 := ut_39.step ch_40
theorem ch_41 : chkT1 41 = true := by kernel_rfl
theorem ut_41 : Up TOk 41 := ut_40.step ch_41
theorem ch_42 : chkT1 42 = true := by kernel_rfl
theorem ut_42 : Up TOk 42 := ut_41.step ch_42
theorem ch_43 : chkT1 43 = true := by kernel_rfl
theorem ut_43 : Up TOk 43 := ut_42.step ch_43
theorem ch_44 : chkT1 44 = true := by kernel_rfl
theorem ut_44 : Up TOk 44 := ut_43.step ch_44
theorem ch_45 : chkT1 45 = true := by kernel_rfl
theorem ut_45 : Up TOk 45 := ut_44.step ch_45
theorem ch_46 : chkT1 46 = true := by kernel_rfl
theorem ut_46 : Up TOk 46 := ut_45.step ch_46
theorem ch_47 : chkT1 47 = true := by kernel_rfl
theorem ut_47 : Up TOk 47 := ut_46.step ch_47
theorem ch_48 : chkT1 48 = true := by kernel_rfl
theorem ut_48 : Up TOk 48 := ut_47.step ch_48
theorem ch_49 : chkT1 49 = true := by kernel_rfl
theorem ut_49 : Up TOk 49 := ut_48.step ch_49
theorem ch_50 : chkT1 50 = true := by kernel_rfl
theorem ut_50 : Up TOk 50 := ut_49.step ch_50
theorem ch_51 : chkT1 51 = true := by kernel_rfl
theorem ut_51 : Up TOk 51 := ut_50.step ch_51
theorem ch_52 : chkT1 52 = true := by kernel_rfl
theorem ut_52 : Up TOk 52 := ut_51.step ch_52
theorem ch_53 : chkT1 53 = true := by kernel_rfl
theorem ut_53 : Up TOk 53 := ut_52.step ch_53
theorem ch_54 : chkT1 54 = true := by kernel_rfl
theorem ut_54 : Up TOk 54 := ut_53.step ch_54
theorem ch_55 : chkT1 55 = true := by kernel_rfl
theorem ut_55 : Up TOk 55 := ut_54.step ch_55
theorem ch_56 : chkT1 56 = true := by kernel_rfl
theorem ut_56 : Up TOk 56 := ut_55.step ch_56
theorem ch_57 : chkT1 57 = true := by kernel_rfl
theorem ut_57 : Up TOk 57 := ut_56.step ch_57
theorem ch_58 : chkT1 58 = true := by kernel_rfl
theorem ut_58 : Up TOk 58 := ut_57.step ch_58
theorem ch_59 : chkT1 59 = true := by kernel_rfl
theorem ut_59 : Up TOk 59 := ut_58.step ch_59
theorem ch_60 : chkT1 60 = true := by kernel_rfl
theorem ut_60 : Up TOk 60 := ut_59.step ch_60
theorem ch_61 : chkT1 61 = true := by kernel_rfl
theorem ut_61 : Up TOk 61 := ut_60.step ch_61
theorem ch_62 : chkT1 62 = true := by kernel_rfl
theorem ut_62 : Up TOk 62 := ut_61.step ch_62
theorem ch_63 : chkT1 63 = true := by kernel_rfl
theorem ut_63 : Up TOk 63 := ut_62.step ch_63
theorem ch_64 : chkT1 64 = true := by kernel_rfl
theorem ut_64 : Up TOk 64 := ut_63.step ch_64
theorem ch_65 : chkT1 65 = true := by kernel_rfl
theorem ut_65 : Up TOk 65 := ut_64.step ch_65
theorem ch_66 : chkT1 66 = true := by kernel_rfl
theorem ut_66 : Up TOk 66 := ut_65.step ch_66
theorem ch_67 : chkT1 67 = true := by kernel_rfl
theorem ut_67 : Up TOk 67 := ut_66.step ch_67
theorem ch_68 : chkT1 68 = true := by kernel_rfl
theorem ut_68 : Up TOk 68 := ut_67.step ch_68
theorem ch_69 : chkT1 69 = true := by kernel_rfl
theorem ut_69 : Up TOk 69 := ut_68.step ch_69
theorem ch_70 : chkT1 70 = true := by kernel_rfl
theorem ut_70 : Up TOk 70 := ut_69.step ch_70
theorem ch_71 : chkT1 71 = true := by kernel_rfl
theorem ut_71 : Up TOk 71 := ut_70.step ch_71
theorem ch_72 : chkT1 72 = true := by kernel_rfl
theorem ut_72 : Up TOk 72 := ut_71.step ch_72
theorem ch_73 : chkT1 73 = true := by kernel_rfl
theorem ut_73 : Up TOk 73 := ut_72.step ch_73
theorem ch_74 : chkT1 74 = true := by kernel_rfl
theorem ut_74 : Up TOk 74 := ut_73.step ch_74
theorem ch_75 : chkT1 75 = true := by kernel_rfl
theorem ut_75 : Up TOk 75 := ut_74.step ch_75
theorem ch_76 : chkT1 76 = true := by kernel_rfl
theorem ut_76 : Up TOk 76 := ut_75.step ch_76
theorem ch_77 : chkT1 77 = true := by kernel_rfl
theorem ut_77 : Up TOk 77 := ut_76.step ch_77
theorem ch_78 : chkT1 78 = true := by kernel_rfl
theorem ut_78 : Up TOk 78 := ut_77.step ch_78
theorem ch_79 : chkT1 79 = true := by kernel_rfl
theorem ut_79 : Up TOk 79 := ut_78.step ch_79
theorem ch_80 : chkT1 80 = true := by kernel_rfl
theorem ut_80 : Up TOk 80 := ut_79.step ch_80
theorem ch_81 : chkT1 81 = true := by kernel_rfl
theorem ut_81 : Up TOk 81 := ut_80.step ch_81
theorem ch_82 : chkT1 82 = true := by kernel_rfl
theorem ut_82 : Up TOk 82 := ut_81.step ch_82
theorem ch_83 : chkT1 83 = true := by kernel_rfl
theorem ut_83 : Up TOk 83 := ut_82.step ch_83
theorem ch_84 : chkT1 84 = true := by kernel_rfl
theorem ut_84 : Up TOk 84 := ut_83.step ch_84
theorem ch_85 : chkT1 85 = true := by kernel_rfl
theorem ut_85 : Up TOk 85 := ut_84.step ch_85
theorem ch_86 : chkT1 86 = true := by kernel_rfl
theorem ut_86 : Up TOk 86 := ut_85.step ch_86
theorem ch_87 : chkT1 87 = true := by kernel_rfl
theorem ut_87 : Up TOk 87 := ut_86.step ch_87
theorem ch_88 : chkT1 88 = true := by kernel_rfl
theorem ut_88 : Up TOk 88 := ut_87.step ch_88
theorem ch_89 : chkT1 89 = true := by kernel_rfl
theorem ut_89 : Up TOk 89 := ut_88.step ch_89
theorem ch_90 : chkT1 90 = true := by kernel_rfl
theorem ut_90 : Up TOk 90 := ut_89.step ch_90
theorem ch_91 : chkT1 91 = true := by kernel_rfl
theorem ut_91 : Up TOk 91 := ut_90.step ch_91
theorem ch_92 : chkT1 92 = true := by kernel_rfl
theorem ut_92 : Up TOk 92 := ut_91.step ch_92
theorem ch_93 : chkT1 93 = true := by kernel_rfl
theorem ut_93 : Up TOk 93 := ut_92.step ch_93
theorem ch_94 : chkT1 94 = true := by kernel_rfl
theorem ut_94 : Up TOk 94 := ut_93.step ch_94
theorem ch_95 : chkT1 95 = true := by kernel_rfl
theorem ut_95 : Up TOk 95 := ut_94.step ch_95
theorem ch_96 : chkT1 96 = true := by kernel_rfl
theorem ut_96 : Up TOk 96 := ut_95.step ch_96
theorem ch_97 : chkT1 97 = true := by kernel_rfl
theorem ut_97 : Up TOk 97 := ut_96.step ch_97
theorem ch_98 : chkT1 98 = true := by kernel_rfl
theorem ut_98 : Up TOk 98 := ut_97.step ch_98
theorem ch_99 : chkT1 99 = true := by kernel_rfl
theorem ut_99 : Up TOk 99 := ut_98.step ch_99
theorem ch_100 : chkT1 100 = true := by kernel_rfl
theorem ut_100 : Up TOk 100 := ut_99.step ch_100
theorem ch_101 : chkT1 101 = true := by kernel_rfl
theorem ut_101 : Up TOk 101 := ut_100.step ch_101
theorem ch_102 : chkT1 102 = true := by kernel_rfl
theorem ut_102 : Up TOk 102 := ut_101.step ch_102
theorem ch_103 : chkT1 103 = true := by kernel_rfl
theorem ut_103 : Up TOk 103 := ut_102.step ch_103
theorem ch_104 : chkT1 104 = true := by kernel_rfl
theorem ut_104 : Up TOk 104 := ut_103.step ch_104
theorem ch_105 : chkT1 105 = true := by kernel_rfl
theorem ut_105 : Up TOk 105 := ut_104.step ch_105
theorem ch_106 : chkT1 106 = true := by kernel_rfl
theorem ut_106 : Up TOk 106 := ut_105.step ch_106
theorem ch_107 : chkT1 107 = true := by kernel_rfl
theorem ut_107 : Up TOk 107 := ut_106.step ch_107
theorem ch_108 : chkT1 108 = true := by kernel_rfl
theorem ut_108 : Up TOk 108 := ut_107.step ch_108
theorem ch_109 : chkT1 109 = true := by kernel_rfl
theorem ut_109 : Up TOk 109 := ut_108.step ch_109
theorem ch_110 : chkT1 110 = true := by kernel_rfl
theorem ut_110 : Up TOk 110 := ut_109.step ch_110
theorem ch_111 : chkT1 111 = true := by kernel_rfl
theorem ut_111 : Up TOk 111 := ut_110.step ch_111
theorem ch_112 : chkT1 112 = true := by kernel_rfl
theorem ut_112 : Up TOk 112 := ut_111.step ch_112
theorem ch_113 : chkT1 113 = true := by kernel_rfl
theorem ut_113 : Up TOk 113 := ut_112.step ch_113
theorem ch_114 : chkT1 114 = true := by kernel_rfl
theorem ut_114 : Up TOk 114 := ut_113.step ch_114
theorem ch_115 : chkT1 115 = true := by kernel_rfl
theorem ut_115 : Up TOk 115 := ut_114.step ch_115
theorem ch_116 : chkT1 116 = true := by kernel_rfl
theorem ut_116 : Up TOk 116 := ut_115.step ch_116
theorem ch_117 : chkT1 117 = true := by kernel_rfl
theorem ut_117 : Up TOk 117 := ut_116.step ch_117
theorem ch_118 : chkT1 118 = true := by kernel_rfl
theorem ut_118 : Up TOk 118 := ut_117.step ch_118
theorem ch_119 : chkT1 119 = true := by kernel_rfl
theorem ut_119 : Up TOk 119 := ut_118.step ch_119
theorem ch_120 : chkT1 120 = true := by kernel_rfl
theorem ut_120 : Up TOk 120 := ut_119.step ch_120
theorem cl_1 (s0 s1 s2 s4 : Slot) : chkL1 1 s0 s1 s2 s4 = true := by kernel_rfl
theorem ul_1 : Up LOk 1 := ul_0.step cl_1
theorem cl_2 (s0 s1 s2 s4 : Slot) : chkL1 2 s0 s1 s2 s4 = true := by kernel_rfl
theorem ul_2 : Up LOk 2 := ul_1.step cl_2
theorem cl_3 (s0 s1 s2 s4 : Slot) : chkL1 3 s0 s1 s2 s4 = true := by kernel_rfl
theorem ul_3 : Up LOk 3 := ul_2.step cl_3
theorem cl_4 (s0 s1 s2 s4 : Slot) : chkL1 4 s0 s1 s2 s4 = true := by kernel_rfl
theorem ul_4 : Up LOk 4 := ul_3.step cl_4
theorem cl_5 (s0 s1 s2 s4 : Slot) : chkL1 5 s0 s1 s2 s4 = true := by kernel_rfl
theorem ul_5 : Up LOk 5 := ul_4.step cl_5
theorem cl_6 (s0 s1 s2 s4 : Slot) : chkL1 6 s0 s1 s2 s4 = true := by kernel_rfl
theorem ul_6 : Up LOk 6 := ul_5.step cl_6
theorem cl_7 (s0 s1 s2 s4 : Slot) : chkL1 7 s0 s1 s2 s4 = true := by kernel_rfl
theorem ul_7 : Up LOk 7 := ul_6.step cl_7
theorem cl_8 (s0 s1 s2 s4 : Slot) : chkL1 8 s0 s1 s2 s4 = true := by kernel_rfl
theorem ul_8 : Up LOk 8 := ul_7.step cl_8
theorem cl_9 (s0 s1 s2 s4 : Slot) : chkL1 9 s0 s1 s2 s4 = true := by kernel_rfl
theorem ul_9 : Up LOk 9 := ul_8.step cl_9
theorem cl_10 (s0 s1 s2 s4 : Slot) : chkL1 10 s0 s1 s2 s4 = true := by kernel_rfl
theorem ul_10 : Up LOk 10 := ul_9.step cl_10
theorem cl_11 (s0 s1 s2 s4 : Slot) : chkL1 11 s0 s1 s2 s4 = true := by kernel_rfl
theorem ul_11 : Up LOk 11 := ul_10.step cl_11
theorem cl_12 (s0 s1 s2 s4 : Slot) : chkL1 12 s0 s1 s2 s4 = true := by kernel_rfl
theorem ul_12 : Up LOk 12 := ul_11.step cl_12
theorem cl_13 (s0 s1 s2 s4 : Slot) : chkL1 13 s0 s1 s2 s4 = true := by kernel_rfl
theorem ul_13 : Up LOk 13 := ul_12.step cl_13
theorem cl_14 (s0 s1 s2 s4 : Slot) : chkL1 14 s0 s1 s2 s4 = true := by kernel_rfl
theorem ul_14 : Up LOk 14 := ul_13.step cl_14
theorem cl_15 (s0 s1 s2 s4 : Slot) : chkL1 15 s0 s1 s2 s4 = true := by kernel_rfl
theorem ul_15 : Up LOk 15 := ul_14.step cl_15
theorem cl_16 (s0 s1 s2 s4 : Slot) : chkL1 16 s0 s1 s2 s4 = true := by kernel_rfl
theorem ul_16 : Up LOk 16 := ul_15.step cl_16
theorem cl_17 (s0 s1 s2 s4 : Slot) : chkL1 17 s0 s1 s2 s4 = true := by kernel_rfl
theorem ul_17 : Up LOk 17 := ul_16.step cl_17
theorem cl_18 (s0 s1 s2 s4 : Slot) : chkL1 18 s0 s1 s2 s4 = true := by kernel_rfl
theorem ul_18 : Up LOk 18 := ul_17.step cl_18
theorem cl_19 (s0 s1 s2 s4 : Slot) : chkL1 19 s0 s1 s2 s4 = true := by kernel_rfl
theorem ul_19 : Up LOk 19 := ul_18.step cl_19
theorem cl_20 (s0 s1 s2 s4 : Slot) : chkL1 20 s0 s1 s2 s4 = true := by kernel_rfl
theorem ul_20 : Up LOk 20 := ul_19.step cl_20
theorem cl_21 (s0 s1 s2 s4 : Slot) : chkL1 21 s0 s1 s2 s4 = true := by kernel_rfl
theorem ul_21 : Up LOk 21 := ul_20.step cl_21
theorem cl_22 (s0 s1 s2 s4 : Slot) : chkL1 22 s0 s1 s2 s4 = true := by kernel_rfl
theorem ul_22 : Up LOk 22 := ul_21.step cl_22
theorem cl_23 (s0 s1 s2 s4 : Slot) : chkL1 23 s0 s1 s2 s4 = true := by kernel_rfl
theorem ul_23 : Up LOk 23 := ul_22.step cl_23
theorem cl_24 (s0 s1 s2 s4 : Slot) : chkL1 24 s0 s1 s2 s4 = true := by kernel_rfl
theorem ul_24 : Up LOk 24 := ul_23.step cl_24
theorem cl_25 (s0 s1 s2 s4 : Slot) : chkL1 25 s0 s1 s2 s4 = true := by kernel_rfl
theorem ul_25 : Up LOk 25 := ul_24.step cl_25
theorem cl_26 (s0 s1 s2 s4 : Slot) : chkL1 26 s0 s1 s2 s4 = true := by kernel_rfl
theorem ul_26 : Up LOk 26 := ul_25.step cl_26
theorem cl_27 (s0 s1 s2 s4 : Slot) : chkL1 27 s0 s1 s2 s4 = true := by kernel_rfl
theorem ul_27 : Up LOk 27 := ul_26.step cl_27
theorem cl_28 (s0 s1 s2 s4 : Slot) : chkL1 28 s0 s1 s2 s4 = true := by kernel_rfl
theorem ul_28 : Up LOk 28 := ul_27.step cl_28
theorem cl_29 (s0 s1 s2 s4 : Slot) : chkL1 29 s0 s1 s2 s4 = true := by kernel_rfl
theorem ul_29 : Up LOk 29 := ul_28.step cl_29
theorem cl_30 (s0 s1 s2 s4 : Slot) : chkL1 30 s0 s1 s2 s4 = true := by kernel_rfl
theorem ul_30 : Up LOk 30 := ul_29.step cl_30
theorem cl_31 (s0 s1 s2 s4 : Slot) : chkL1 31 s0 s1 s2 s4 = true := by kernel_rfl
theorem ul_31 : Up LOk 31 := ul_30.step cl_31
theorem cl_32 (s0 s1 s2 s4 : Slot) : chkL1 32 s0 s1 s2 s4 = true := by kernel_rfl
theorem ul_32 : Up LOk 32 := ul_31.step cl_32
theorem cl_33 (s0 s1 s2 s4 : Slot) : chkL1 33 s0 s1 s2 s4 = true := by kernel_rfl
theorem ul_33 : Up LOk 33 := ul_32.step cl_33
theorem cl_34 (s0 s1 s2 s4 : Slot) : chkL1 34 s0 s1 s2 s4 = true := by kernel_rfl
theorem ul_34 : Up LOk 34 := ul_33.step cl_34
theorem cl_35 (s0 s1 s2 s4 : Slot) : chkL1 35 s0 s1 s2 s4 = true := by kernel_rfl
theorem ul_35 : Up LOk 35 := ul_34.step cl_35
theorem cl_36 (s0 s1 s2 s4 : Slot) : chkL1 36 s0 s1 s2 s4 = true := by kernel_rfl
theorem ul_36 : Up LOk 36 := ul_35.step cl_36
theorem cl_37 (s0 s1 s2 s4 : Slot) : chkL1 37 s0 s1 s2 s4 = true := by kernel_rfl
theorem ul_37 : Up LOk 37 := ul_36.step cl_37
theorem cl_38 (s0 s1 s2 s4 : Slot) : chkL1 38 s0 s1 s2 s4 = true := by kernel_rfl
theorem ul_38 : Up LOk 38 := ul_37.step cl_38
theorem cl_39 (s0 s1 s2 s4 : Slot) : chkL1 39 s0 s1 s2 s4 = true := by kernel_rfl
theorem ul_39 : Up LOk 39 := ul_38.step cl_39
theorem cl_40 (s0 s1 s2 s4 : Slot) : chkL1 40 s0 s1 s2 s4 = true := by kernel_rfl
theorem ul_40 : Up LOk 40 := ul_39.step cl_40
theorem cl_41 (s0 s1 s2 s4 : Slot) : chkL1 41 s0 s1 s2 s4 = true := by kernel_rfl
theorem ul_41 : Up LOk 41 := ul_40.step cl_41
theorem cl_42 (s0 s1 s2 s4 : Slot) : chkL1 42 s0 s1 s2 s4 = true := by kernel_rfl
theorem ul_42 : Up LOk 42 := ul_41.step cl_42
theorem cl_43 (s0 s1 s2 s4 : Slot) : chkL1 43 s0 s1 s2 s4 = true := by kernel_rfl
theorem ul_43 : Up LOk 43 := ul_42.step cl_43
theorem cl_44 (s0 s1 s2 s4 : Slot) : chkL1 44 s0 s1 s2 s4 = true := by kernel_rfl
theorem ul_44 : Up LOk 44 := ul_43.step cl_44
theorem cl_45 (s0 s1 s2 s4 : Slot) : chkL1 45 s0 s1 s2 s4 = true := by kernel_rfl
theorem ul_45 : Up LOk 45 := ul_44.step cl_45
theorem cl_46 (s0 s1 s2 s4 : Slot) : chkL1 46 s0 s1 s2 s4 = true := by kernel_rfl
theorem ul_46 : Up LOk 46 := ul_45.step cl_46
theorem cl_47 (s0 s1 s2 s4 : Slot) : chkL1 47 s0 s1 s2 s4 = true := by kernel_rfl
theorem ul_47 : Up LOk 47 := ul_46.step cl_47
theorem cl_48 (s0 s1 s2 s4 : Slot) : chkL1 48 s0 s1 s2 s4 = true := by kernel_rfl
theorem ul_48 : Up LOk 48 := ul_47.step cl_48
theorem cl_49 (s0 s1 s2 s4 : Slot) : chkL1 49 s0 s1 s2 s4 = true := by kernel_rfl
theorem ul_49 : Up LOk 49 := ul_48.step cl_49
theorem cl_50 (s0 s1 s2 s4 : Slot) : chkL1 50 s0 s1 s2 s4 = true := by kernel_rfl
theorem ul_50 : Up LOk 50 := ul_49.step cl_50
theorem cl_51 (s0 s1 s2 s4 : Slot) : chkL1 51 s0 s1 s2 s4 = true := by kernel_rfl
theorem ul_51 : Up LOk 51 := ul_50.step cl_51
theorem cl_52 (s0 s1 s2 s4 : Slot) : chkL1 52 s0 s1 s2 s4 = true := by kernel_rfl
theorem ul_52 : Up LOk 52 := ul_51.step cl_52
theorem cl_53 (s0 s1 s2 s4 : Slot) : chkL1 53 s0 s1 s2 s4 = true := by kernel_rfl
theorem ul_53 : Up LOk 53 := ul_52.step cl_53
theorem cl_54 (s0 s1 s2 s4 : Slot) : chkL1 54 s0 s1 s2 s4 = true := by kernel_rfl
theorem ul_54 : Up LOk 54 := ul_53.step cl_54
theorem cl_55 (s0 s1 s2 s4 : Slot) : chkL1 55 s0 s1 s2 s4 = true := by kernel_rfl
theorem ul_55 : Up LOk 55 := ul_54.step cl_55
theorem cl_56 (s0 s1 s2 s4 : Slot) : chkL1 56 s0 s1 s2 s4 = true := by kernel_rfl
theorem ul_56 : Up LOk 56 := ul_55.step cl_56
theorem cl_57 (s0 s1 s2 s4 : Slot) : chkL1 57 s0 s1 s2 s4 = true := by kernel_rfl
theorem ul_57 : Up LOk 57 := ul_56.step cl_57
theorem cl_58 (s0 s1 s2 s4 : Slot) : chkL1 58 s0 s1 s2 s4 = true := by kernel_rfl
theorem ul_58 : Up LOk 58 := ul_57.step cl_58
theorem cl_59 (s0 s1 s2 s4 : Slot) : chkL1 59 s0 s1 s2 s4 = true := by kernel_rfl
theorem ul_59 : Up LOk 59 := ul_58.step cl_59
theorem cl_60 (s0 s1 s2 s4 : Slot) : chkL1 60 s0 s1 s2 s4 = true := by kernel_rfl
theorem ul_60 : Up LOk 60 := ul_59.step cl_60

end
end EV
set_option maxRecDepth 100000
namespace EV
open PySem
/-- the bag of draws -/
structure Bag (cells : List Int) (n : Nat) (b : List D) : Prop where
  ex : ∃ idx acc seed : Int, b = [.lst (cells.map .int), .int idx, .int acc, .int seed] ∧ 0 ≤ idx ∧ idx ≤ n ∧ 0 ≤ acc ∧ 0 ≤ seed ∧ seed < 2305843009213693951
noncomputable abbrev drawT : FS := (EV.seq (asg (gN 4) (bin dMod (bi bInt (aCons (ixN 0 (cC (.int 2))) aNil)) (nm 1)))
  (EV.seq (setI 0 (cC (.int 2)) (bin dDiv (bi bInt (aCons (ixN 0 (cC (.int 2))) aNil)) (nm 1)))
  (retNm 4)))
noncomputable abbrev drawI : FS := (EV.seq (asg (gN 2) (cC (.int 0)))
  (EV.seq (EV.ifS (tB (bin dLt (ixN 0 (cC (.int 1))) (bi bLen (aCons (ixN 0 (cC (.int 0))) aNil))))
  (asg (gN 2) (bin dIx (ixN 0 (cC (.int 0))) (ixN 0 (cC (.int 1)))))
  sNx)
  (EV.seq (setI 0 (cC (.int 1)) (bin dAdd (ixN 0 (cC (.int 1))) (cC (.int 1))))
  (EV.ifS (tB (bin dGe (nm 2) (bin dPow (cC (.int 10)) (cC (.int 18)))))
  (setI 0 (cC (.int 2)) (bin dMod (bi bInt (aCons (nm 2) aNil)) (bin dPow (bin dPow (cC (.int 10)) (cC (.int 60))) (cC (.int 15)))))
  (EV.seq (asg (gN 3) (bin dMod (bi bInt (aCons (bin dAdd (bin dAdd (bin dAdd (bin dMul (ixN 0 (cC (.int 3))) (cC (.int 48271))) (bin dMul (nm 2) (cC (.int 69621)))) (bin dMul (ixN 0 (cC (.int 1))) (cC (.int 104729)))) (cC (.int 77777))) aNil)) (cC (.int 2305843009213693951))))
  (EV.seq (setI 0 (cC (.int 3)) (nm 3))
  (setI 0 (cC (.int 2)) (bin dMod (bi bInt (aCons (bin dAdd (bin dAdd (bin dMul (bin dMul (nm 3) (nm 3)) (nm 3)) (bin dMul (cC (.int 977)) (nm 3))) (ixN 0 (cC (.int 1)))) aNil)) (cC (.int 170141183460469231731687303715884105727))))))))))
noncomputable abbrev drawH : FS := (EV.ifS (tB (bin dEq (ixN 0 (cC (.int 2))) (cC (.int 0)))) drawI sNx)
theorem draw_cut : b__law_draw = EV.seq drawH drawT := rfl
theorem drawT_ok {c : D} {idx acc seed size : Int} {s2 s3 s4 : Slot} (h0 : 0 < size) (h1 : size < 2 ^ 64) :
    drawT [.ow (some 0) (.l [c, .int idx, .int acc, .int seed]), .sh (.int size), s2, s3, s4] = .ok (.rt (.int (acc.fmod size))) [.ow (some 0) (.l [c, .int idx, .int (acc.fdiv size), .int seed]), .sh (.int size), s2, s3, .sh (.int (acc.fmod size))] := by
  have hs : size ≠ 0 := by omega
  have hl : size.natAbs.log2 < 9000 := by
    have : size.natAbs < 2 ^ 64 := by omega
    have := (Nat.log2_lt (by omega)).mpr this
    omega
  simp [EV.seq, asg, bin, bi, aCons, aNil, ixN, has, cC, gN, nm, dMod, dDiv, bInt, setI, retNm, getN_def, hs, hl, ixP, len_eq, setN_eq]
noncomputable abbrev drawC : FS := (EV.seq (asg (gN 2) (cC (.int 0)))
  (EV.ifS (tB (bin dLt (ixN 0 (cC (.int 1))) (bi bLen (aCons (ixN 0 (cC (.int 0))) aNil))))
  (asg (gN 2) (bin dIx (ixN 0 (cC (.int 0))) (ixN 0 (cC (.int 1)))))
  sNx))
noncomputable abbrev drawA : FS := (setI 0 (cC (.int 2)) (bin dMod (bi bInt (aCons (nm 2) aNil)) (bin dPow (bin dPow (cC (.int 10)) (cC (.int 60))) (cC (.int 15)))))
noncomputable abbrev drawB1 : FS := (asg (gN 3) (bin dMod (bi bInt (aCons (bin dAdd (bin dAdd (bin dAdd (bin dMul (ixN 0 (cC (.int 3))) (cC (.int 48271))) (bin dMul (nm 2) (cC (.int 69621)))) (bin dMul (ixN 0 (cC (.int 1))) (cC (.int 104729)))) (cC (.int 77777))) aNil)) (cC (.int 2305843009213693951))))
noncomputable abbrev drawB2 : FS := (EV.seq (setI 0 (cC (.int 3)) (nm 3))
  (setI 0 (cC (.int 2)) (bin dMod (bi bInt (aCons (bin dAdd (bin dAdd (bin dMul (bin dMul (nm 3) (nm 3)) (nm 3)) (bin dMul (cC (.int 977)) (nm 3))) (ixN 0 (cC (.int 1)))) aNil)) (cC (.int 170141183460469231731687303715884105727)))))
noncomputable abbrev drawR : FS := (EV.seq (setI 0 (cC (.int 1)) (bin dAdd (ixN 0 (cC (.int 1))) (cC (.int 1))))
  (EV.ifS (tB (bin dGe (nm 2) (bin dPow (cC (.int 10)) (cC (.int 18))))) drawA (EV.seq drawB1 drawB2)))
theorem drawI_cut : drawI = EV.seq drawC drawR := (seq_assoc _ _ _).symm
theorem drawC_ok {cells : List Int} {idx acc seed size : Int} {s2 s3 s4 : Slot} (hc : ∀ c ∈ cells, bits c ≤ 1048577) (i0 : 0 ≤ idx) : ∃ cell : Int, drawC [.ow (some 0) (.l [.lst (cells.map .int), .int idx, .int acc, .int seed]), .sh (.int size), s2, s3, s4] =
      .ok .nx [.ow (some 0) (.l [.lst (cells.map .int), .int idx, .int acc, .int seed]), .sh (.int size), .sh (.int cell), s3, s4] ∧ bits cell ≤ 1048577 := by
  by_cases hlt : idx < cells.length
  · have hn : idx.toNat < cells.length := by omega
    refine ⟨cells[idx.toNat], ?_, hc _ (List.getElem_mem hn)⟩
    simp [EV.seq, asg, bin, bi, aCons, aNil, ixN, has, cC, gN, nm, dLt, bLen, tB, EV.ifS, sNx, getN_def, dIx, len_eq, hlt, i0, hn, List.getElem?_map]
  · refine ⟨0, ?_, by decide⟩
    simp [EV.seq, asg, bin, bi, aCons, aNil, ixN, has, cC, gN, nm, dLt, bLen, tB, EV.ifS, sNx, getN_def, dIx, len_eq, hlt]
theorem p18 : dPow (.int 10) (.int 18) = some (.int 1000000000000000000) := by
  rw [dPow_int, if_pos (by decide +kernel)]
  rfl
theorem p60 : dPow (.int 10) (.int 60) = some (.int 1000000000000000000000000000000000000000000000000000000000000) := by
  rw [dPow_int, if_pos (by decide +kernel)]
  rfl
noncomputable def bigP : Int := 1000000000000000000000000000000000000000000000000000000000000 ^ 15
theorem bigP_pos : 0 < bigP := by decide +kernel
theorem p900 : dPow (.int 1000000000000000000000000000000000000000000000000000000000000) (.int 15) = some (.int bigP) := by
  rw [dPow_int, if_pos (by decide +kernel)]
  rfl
theorem drawR_ok {c : D} {idx acc seed size cell : Int} {s3 s4 : Slot} (hc : bits cell ≤ 1048577) (i0 : 0 ≤ idx) (i1 : idx ≤ 1000000) (h0 : 0 ≤ seed) (h1 : seed < 2305843009213693951) :
    ∃ acc' seed' t2 t3, drawR [.ow (some 0) (.l [c, .int idx, .int acc, .int seed]), .sh (.int size), .sh (.int cell), s3, s4] = .ok .nx [.ow (some 0) (.l [c, .int (idx + 1), .int acc', .int seed']), .sh (.int size), t2, t3, s4] ∧
      0 ≤ acc' ∧ 0 ≤ seed' ∧ seed' < 2305843009213693951 := by
  have hP := bigP_pos
  by_cases hb : (1000000000000000000 : Int) ≤ cell
  · refine ⟨cell.fmod bigP, seed, .sh (.int cell), s3, ?_, (fmod_lt hP).1, h0, h1⟩
    have hne : bigP ≠ 0 := by omega
    simp [EV.seq, asg, bin, bi, aCons, aNil, ixN, has, cC, gN, nm, dGe, dMod, p18, p60, p900, dAdd, bInt, tB, EV.ifS, getN_def, len_eq, setI, setN_eq, ixP, hb, hne]
  · have b1 : bits seed ≤ 62 := bits_small (n := 61) (by omega)
    have b2 : bits (idx + 1) ≤ 21 := bits_small (n := 20) (by omega)
    have m1 := mul_ok (i := seed) (j := 48271) (by have : bits 48271 = 16 := by decide +kernel
                                                   omega)
    have m2 := mul_ok (i := cell) (j := 69621) (by have : bits 69621 = 17 := by decide +kernel
                                                   omega)
    have m3 := mul_ok (i := idx + 1) (j := 104729) (by have : bits 104729 = 17 := by decide +kernel
                                                       omega)
    obtain ⟨st, est⟩ : ∃ st : Int, st = (seed * 48271 + cell * 69621 + (idx + 1) * 104729 + 77777).fmod 2305843009213693951 := ⟨_, rfl⟩
    have hst := fmod_lt (i := seed * 48271 + cell * 69621 + (idx + 1) * 104729 + 77777) (j := 2305843009213693951) (by decide)
    rw [← est] at hst
    have b3 : bits st ≤ 62 := bits_small (n := 61) (by omega)
    have m4 := mul_ok (i := st) (j := st) (by omega)
    have b4 := bits_mul st st
    have m5 := mul_ok (i := st * st) (j := st) (by omega)
    have m6 := mul_ok (i := 977) (j := st) (by have : bits 977 = 10 := by decide +kernel
                                               omega)
    refine ⟨(st * st * st + 977 * st + (idx + 1)).fmod 170141183460469231731687303715884105727, st, .sh (.int cell), .sh (.int st), ?_, (fmod_lt (by decide)).1, hst.1, hst.2⟩
    simp [EV.seq, asg, bin, bi, aCons, aNil, ixN, has, cC, gN, nm, dGe, dMod, p18, dAdd, bInt, tB, EV.ifS, getN_def, len_eq, setI, setN_eq, ixP, hb, m1, m2, m3, m4, m5, m6, ← est]
theorem draw_ok {cells : List Int} {n : Nat} {b : List D} {size : Int} (hb : Bag cells n b) (hc : ∀ c ∈ cells, bits c ≤ 1048577) (hn : n ≤ 1000000) (h0 : 0 < size) (h1 : size < 2 ^ 64) :
    ∃ r b', m__law_draw (.l b) [.int size] = .ret (.int r) (.l b') ∧ 0 ≤ r ∧ r < size ∧ Bag cells (n + 1) b' := by
  obtain ⟨idx, acc, seed, rfl, i0, i1, a0, s0, s1⟩ := hb.ex
  have run : ∀ {idx acc seed : Int} {t2 t3 : Slot}, drawH [.ow (some 0) (.l [.lst (cells.map .int), .int idx, .int acc, .int seed]), .sh (.int size), .no, .no, .no] = drawH [.ow (some 0) (.l [.lst (cells.map .int), .int idx, .int acc, .int seed]), .sh (.int size), .no, .no, .no] := rfl
  have fin : ∀ {idx' acc' seed' : Int} {t2 t3 : Slot}, drawH [.ow (some 0) (.l [.lst (cells.map .int), .int idx, .int acc, .int seed]), .sh (.int size), .no, .no, .no] = .ok .nx [.ow (some 0) (.l [.lst (cells.map .int), .int idx', .int acc', .int seed']), .sh (.int size), t2, t3, .no] →
      0 ≤ idx' → idx' ≤ (n + 1 : Nat) → 0 ≤ acc' → 0 ≤ seed' → seed' < 2305843009213693951 →
      ∃ r b', m__law_draw (.l [.lst (cells.map .int), .int idx, .int acc, .int seed]) [.int size] = .ret (.int r) (.l b') ∧ 0 ≤ r ∧ r < size ∧ Bag cells (n + 1) b' := by
    intro idx' acc' seed' t2 t3 h j0 j1 c0 d0 d1
    refine ⟨acc'.fmod size, [.lst (cells.map .int), .int idx', .int (acc'.fdiv size), .int seed'], ?_, (fmod_lt h0).1, (fmod_lt h0).2, ⟨idx', acc'.fdiv size, seed', rfl, j0, j1, ?_, d0, d1⟩⟩
    · exact (fnQ_ret (np := 2) (n := 5) rfl ((seq_nx h).trans (drawT_ok h0 h1))).trans rfl
    · rw [Int.fdiv_eq_ediv_of_nonneg _ (by omega)]
      exact Int.ediv_nonneg c0 (by omega)
  by_cases ha : acc = 0
  · subst ha
    obtain ⟨cell, e1, hbits⟩ := drawC_ok (acc := 0) (seed := seed) (size := size) (s2 := .no) (s3 := .no) (s4 := .no) hc i0
    obtain ⟨acc', seed', t2, t3, e2, a1, a2, a3⟩ := drawR_ok (c := .lst (cells.map .int)) (acc := 0) (size := size) (s3 := .no) (s4 := .no) hbits i0 (by omega) s0 s1
    refine fin (idx' := idx + 1) (acc' := acc') (seed' := seed') (t2 := t2) (t3 := t3) ?_ (by omega) (by omega) a1 a2 a3
    have : drawH [.ow (some 0) (.l [.lst (cells.map .int), .int idx, .int 0, .int seed]), .sh (.int size), .no, .no, .no] = drawI [.ow (some 0) (.l [.lst (cells.map .int), .int idx, .int 0, .int seed]), .sh (.int size), .no, .no, .no] := by
      simp [EV.ifS, tB, bin, ixN, has, cC, getN_def]
    rw [this, drawI_cut, seq_nx e1, e2]
  · refine fin (idx' := idx) (acc' := acc) (seed' := seed) (t2 := .no) (t3 := .no) ?_ i0 (by omega) a0 s0 s1
    simp [EV.ifS, tB, bin, ixN, has, cC, getN_def, ha, sNx]
end EV
set_option maxRecDepth 100000
namespace EV
open PySem

theorem b2a {ns : List Int} (hl : ns.length ≤ 63) : (aCons (bi bMin (aCons (cC (.int 63)) (aCons (lenN 0) aNil))) aNil) [.sh (.scr ns), .no] = .ok [.int (ns.length : Int)] [.sh (.scr ns), .no] := by
  have hmin : (if (ns.length : Int) < 63 then (ns.length : Int) else 63) = (ns.length : Int) := by split <;> omega
  simp [aCons, aNil, bi, cC, lenN, bLen, bMin, hmin]
theorem b2 {ns : List Int} (hl : ns.length ≤ 63) : (EV.iRng1 (aCons (bi bMin (aCons (cC (.int 63)) (aCons (lenN 0) aNil))) aNil)) [.sh (.scr ns), .no] = .ok (rngL 0 ns.length) [.sh (.scr ns), .no] :=
  rng1_ok (b2a hl) (by omega) (by omega)
theorem b3 {ns : List Int} : lcL [1] (gN 1) EV.tYes (ixN 0 (nm 1)) (rngL 0 ns.length) [.sh (.scr ns), .no] = .ok (ns.map .int) [.sh (.scr ns), .no] := by
    rw [lcL_map (f := onI fun i => .int ((ns[i.toNat]?).getD 0))]
    · rw [rngL_map (f := fun i => .int ((ns[i.toNat]?).getD 0)), ← range_get]
      simp
    · intro x hx
      obtain ⟨i, hi, rfl⟩ := mem_rngL hx
      refine ⟨[.sh (.scr ns), .sh (.int (0 + i))], _, [.sh (.scr ns), .sh (.int (0 + i))], rfl, rfl, ?_, rfl⟩
      simp [ixN, has, nm, dIx, getN_def, hi, onI]
theorem b4 {ns : List Int} (hl : ns.length ≤ 63) : (EV.lc [1] (EV.iRng1 (aCons (bi bMin (aCons (cC (.int 63)) (aCons (lenN 0) aNil))) aNil)) (gN 1) EV.tYes (ixN 0 (nm 1))) [.sh (.scr ns), .no] = .ok (.l (ns.map .int)) [.sh (.scr ns), .no] :=
    lc_ok (ε2 := [.sh (.scr ns), .no]) (b2 hl) (by rw [rngL_length]; omega) b3
theorem b5 {ns : List Int} (hl : ns.length ≤ 63) :  (aCons (frz (EV.lc [1] (EV.iRng1 (aCons (bi bMin (aCons (cC (.int 63)) (aCons (lenN 0) aNil))) aNil)) (gN 1) EV.tYes (ixN 0 (nm 1)))) (aCons (cC (.int 0)) (aCons (cC (.int 0)) (aCons (cC (.int 7919)) aNil)))) [.sh (.scr ns), .no] = .ok [.lst (ns.map .int), .int 0, .int 0, .int 7919] [.sh (.scr ns), .no] := by
    simp [aCons, frz, b4 hl, O.toD?, cC, aNil]
theorem b6 {ns : List Int} (hl : ns.length ≤ 63) : b__law_bag [.sh (.scr ns), .no] = .ok (.ro (.l [.lst (ns.map .int), .int 0, .int 0, .int 7919])) [.sh (.scr ns), .no] := by
  unfold b__law_bag EV.retO
  rw [lstO_ok (b5 hl) (by simp)]
  rfl
theorem bag_ok {ns : List Int} (hl : ns.length ≤ 63) : m__law_bag [.scr ns] = .rto (.l [.lst (ns.map .int), .int 0, .int 0, .int 7919]) := fn_rto rfl (b6 hl)
theorem draw_at {cells : List Int} {n : Nat} {b : List D} {ε : Env} {size : Int} (hi : ε[1]? = some (.ow none (.l b))) (hb : Bag cells n b) (hc : ∀ c ∈ cells, bits c ≤ 1048577) (hn : n ≤ 1000000) (h0 : 0 < size) (h1 : size < 2 ^ 64) :
    ∃ r b', callQ m__law_draw 1 (aCons (cC (.int size)) aNil) ε = .ok (.int r) (ε.set 1 (.ow none (.l b'))) ∧ 0 ≤ r ∧ r < size ∧ Bag cells (n + 1) b' := by
  obtain ⟨r, b', e, h2, h3, h4⟩ := draw_ok hb hc hn h0 h1
  refine ⟨r, b', ?_, h2, h3, h4⟩
  simp [callQ, has, hi, aCons, aNil, cC, e]
theorem holds_all {i : Int} (h0 : 1 ≤ i) (h1 : i ≤ 120) : m__law_holds [.int i] = .ret (.bl true) := by
  have e : ((i.toNat : Nat) : Int) = i := by omega
  have h : chkT1 i.toNat = true := ut_120 i.toNat (by omega) (by omega)
  obtain ⟨ks, x, g1, g2, g3, g4, g5, g6⟩ := chkT1_ok h
  rw [e] at g4 g5 g6
  exact holds_of g1 g2 g3 g4 g5 g6
theorem rest_all (s0 s1 s2 s4 : Slot) {i : Int} (h0 : 1 ≤ i) (h1 : i ≤ 60) : ∃ ε, lawR [s0, s1, s2, .sh (.int i), s4, .no, .no, .no, .no, .no, .no] = .ok (.rt (.bl true)) ε := by
  have e : ((i.toNat : Nat) : Int) = i := by omega
  have h : isR (lawR2 [s0, s1, s2, .sh (.int ((i.toNat : Nat) : Int)), s4, .no, .no, .no, .no, .no, .no]) = true := ul_60 i.toNat (by omega) (by omega) s0 s1 s2 s4
  rw [e] at h
  rw [lawR_eq]
  exact isR_ok h
theorem intBits_bits {z : Int} {n : Nat} (h : Builtin.Int.intBits z ≤ n) : bits z ≤ n + 1 := by
  unfold Builtin.Int.intBits at h
  unfold bits
  split at h
  · rename_i hz
    have : z = 0 := by simpa using hz
    subst this
    have e : (0 : Int).natAbs.log2 = 0 := by decide
    omega
  · omega
theorem law_true (ns : List Int) (hl : ns.length ≤ 63) (hz : ∀ z ∈ ns, Builtin.Int.intBits z ≤ 1048576) : m_law [.scr ns] = .ret (.bl true) := by
  have hc : ∀ c ∈ ns, bits c ≤ 1048577 := fun c h => intBits_bits (hz c h)
  have b0 : Bag ns 0 [.lst (ns.map .int), .int 0, .int 0, .int 7919] := ⟨0, 0, 7919, rfl, by decide, by decide, by decide, by decide, by decide⟩
  obtain ⟨r1, c1, e1, u1, v1, B1⟩ := draw_at (ε := [.sh (.scr ns), .ow none (.l [.lst (ns.map .int), .int 0, .int 0, .int 7919]), .no, .no, .no, .no, .no, .no, .no, .no, .no]) (size := 8) rfl b0 hc (by decide) (by decide) (by decide)
  have st1 : (asgO 1 (callO m__law_bag (aCons (nm 0) aNil))) [.sh (.scr ns), .no, .no, .no, .no, .no, .no, .no, .no, .no, .no] = .ok .nx [.sh (.scr ns), .ow none (.l [.lst (ns.map .int), .int 0, .int 0, .int 7919]), .no, .no, .no, .no, .no, .no, .no, .no, .no] := by
    simp [asgO, callO, aCons, aNil, nm, bag_ok hl, FR.toO]
  have st2 : (asg (gN 2) (bin dEq (callQ m__law_draw 1 (aCons (cC (.int 8)) aNil)) (cC (.int 3)))) [.sh (.scr ns), .ow none (.l [.lst (ns.map .int), .int 0, .int 0, .int 7919]), .no, .no, .no, .no, .no, .no, .no, .no, .no] = .ok .nx [.sh (.scr ns), .ow none (.l c1), .sh (.bl (r1 == 3)), .no, .no, .no, .no, .no, .no, .no, .no] := by
    simp [asg, bin, e1, cC, gN]
  obtain ⟨r2, c2, e2, u2, v2, B2⟩ := draw_at (ε := [.sh (.scr ns), .ow none (.l c1), .sh (.bl (r1 == 3)), .no, .no, .no, .no, .no, .no, .no, .no]) (size := 60) rfl B1 hc (by decide) (by decide) (by decide)
  have st3 : (asg (gN 3) (bin dAdd (cC (.int 1)) (callQ m__law_draw 1 (aCons (cC (.int 60)) aNil)))) [.sh (.scr ns), .ow none (.l c1), .sh (.bl (r1 == 3)), .no, .no, .no, .no, .no, .no, .no, .no] = .ok .nx [.sh (.scr ns), .ow none (.l c2), .sh (.bl (r1 == 3)), .sh (.int (1 + r2)), .no, .no, .no, .no, .no, .no, .no] := by
    simp [asg, bin, e2, cC, gN, dAdd]
  obtain ⟨r3, c3, e3, u3, v3, B3⟩ := draw_at (ε := [.sh (.scr ns), .ow none (.l c2), .sh (.bl (r1 == 3)), .sh (.int (1 + r2)), .no, .no, .no, .no, .no, .no, .no]) (size := 60) rfl B2 hc (by decide) (by decide) (by decide)
  have st4 : ∃ o : Int, (asg (gN 4) (ifE (tT (nm 2)) (bin dAdd (cC (.int 61)) (callQ m__law_draw 1 (aCons (cC (.int 60)) aNil))) (bin dAdd (cC (.int 1)) (callQ m__law_draw 1 (aCons (cC (.int 60)) aNil))))) [.sh (.scr ns), .ow none (.l c2), .sh (.bl (r1 == 3)), .sh (.int (1 + r2)), .no, .no, .no, .no, .no, .no, .no] = .ok .nx [.sh (.scr ns), .ow none (.l c3), .sh (.bl (r1 == 3)), .sh (.int (1 + r2)), .sh (.int o), .no, .no, .no, .no, .no, .no] ∧ 1 ≤ o ∧ o ≤ 120 := by
    by_cases h : r1 = 3
    · refine ⟨61 + r3, ?_, by omega, by omega⟩
      simp [asg, bin, e3, cC, gN, dAdd, ifE, tT, nm, tru, h] at e3 ⊢
      simp [e3]
    · refine ⟨1 + r3, ?_, by omega, by omega⟩
      have hf : (r1 == 3) = false := by simpa using h
      simp [asg, bin, e3, cC, gN, dAdd, ifE, tT, nm, tru, hf] at e3 ⊢
      simp [e3]
  obtain ⟨o, st4, o1, o2⟩ := st4
  obtain ⟨r4, c4, e4, u4, v4, B4⟩ := draw_at (ε := [.sh (.scr ns), .ow none (.l c3), .sh (.bl (r1 == 3)), .sh (.int (1 + r2)), .sh (.int o), .no, .no, .no, .no, .no, .no]) (size := 12) rfl B3 hc (by decide) (by decide) (by decide)
  have h1 := holds_all (i := 1 + r2) (by omega) (by omega)
  have h2 := holds_all (i := o) o1 o2
  have h3 := holds_all (i := 1 + r4) (by omega) (by omega)
  have st5 : (EV.ifS (tOr (tNot (tT (EV.call m__law_holds (aCons (nm 3) aNil)))) (tOr (tNot (tT (EV.call m__law_holds (aCons (nm 4) aNil)))) (tNot (tT (EV.call m__law_holds (aCons (bin dAdd (cC (.int 1)) (callQ m__law_draw 1 (aCons (cC (.int 12)) aNil))) aNil))))))
      (EV.ret (cC (.bl false))) sNx) [.sh (.scr ns), .ow none (.l c3), .sh (.bl (r1 == 3)), .sh (.int (1 + r2)), .sh (.int o), .no, .no, .no, .no, .no, .no] = .ok .nx [.sh (.scr ns), .ow none (.l c4), .sh (.bl (r1 == 3)), .sh (.int (1 + r2)), .sh (.int o), .no, .no, .no, .no, .no, .no] := by
    simp [EV.ifS, tOr, tNot, tT, EV.call, aCons, aNil, nm, h1, h2, FR.toE, tru, bin, cC, e4, dAdd, h3, sNx]
  obtain ⟨ε', e6⟩ := rest_all (.sh (.scr ns)) (.ow none (.l c4)) (.sh (.bl (r1 == 3))) (.sh (.int o)) (i := 1 + r2) (by omega) (by omega)
  refine fn_ret (ε := ε') rfl ?_
  exact (seq_nx st1).trans ((seq_nx st2).trans ((seq_nx st3).trans ((seq_nx st4).trans ((seq_nx st5).trans e6))))
end EV
set_option maxRecDepth 100000
set_option maxHeartbeats 4000000
namespace EV
open PySem L2
def topS (i : Nat) : Stmt := PySem.Challenge.pw_everystretch_k03_round_factors.main.body.getD i (.Pass ⟨0, 0, 0, 0⟩)
abbrev s__law_bag : Stmt := topS 42
abbrev s__law_draw : Stmt := topS 43
abbrev s__law_due : Stmt := topS 49
abbrev s_is_integer : Stmt := topS 32
abbrev s_Ratio_init : Stmt := inClass (topS 34) 0
abbrev s_ratios : Stmt := topS 36
abbrev s_prime_factors : Stmt := topS 7
abbrev s_tops_spread : Stmt := topS 4
abbrev s_signed_divisors : Stmt := topS 9
abbrev s_round_length : Stmt := topS 8
abbrev s_times_gap : Stmt := topS 10
abbrev s_over_gap : Stmt := topS 11
abbrev s_round_product : Stmt := topS 12
abbrev s_round_tops : Stmt := topS 13
abbrev s_round_factor : Stmt := topS 40
abbrev s__law_is_int : Stmt := topS 45
abbrev s__law_lowest : Stmt := topS 44
abbrev s__law_pair : Stmt := topS 46
abbrev s__law_pairs : Stmt := topS 47
abbrev s__law_whole : Stmt := topS 48
abbrev s_tops_of_ratios : Stmt := topS 3
abbrev s_stripped : Stmt := topS 37
abbrev s_number : Stmt := topS 35
abbrev s_polynomial : Stmt := topS 38
abbrev s_tops_turned : Stmt := topS 5
abbrev s_turned : Stmt := topS 39
abbrev s__law_table : Stmt := topS 50
abbrev s__law_holds : Stmt := topS 51
abbrev s_law : Stmt := topS 52
structure Fx (K : PySem.W.Frag) (mg : Str → Option Value) (T : Tb) : Prop where
  hK : T.K = K
  al : ∀ c, IsC K (T.ad c)
  n_abs : mg "abs" = none
  n_bool : mg "bool" = none
  n_enumerate : mg "enumerate" = none
  i_gcd : mg "gcd" = some (.builtin "math.gcd")
  n_int : mg "int" = none
  n_isinstance : mg "isinstance" = none
  i_lcm : mg "lcm" = some (.builtin "math.lcm")
  n_len : mg "len" = none
  n_list : mg "list" = none
  n_min : mg "min" = none
  n_range : mg "range" = none
  n_str : mg "str" = none
  n_sum : mg "sum" = none
  n_tuple : mg "tuple" = none
  g_Ratio : mg "Ratio" = some (.ref (T.ad 0))
  kc_Ratio : KitC K T 1 0
  nm_Ratio : T.nm 0 = (["top", "bottom"] : List Str)
  na_Ratio_top : NoAttr K (T.ad 0) "top"
  na_Ratio_bottom : NoAttr K (T.ad 0) "bottom"
  in_Ratio : ∃ (f : Addr) (fd : FuncData), Mk K (T.ad 0) f ∧ FunB K "__init__" "Ratio.__init__" s_Ratio_init f fd (["self", "top", "bottom"] : List Str)
  r__law_bag : ∃ (f : Addr) (fd : FuncData), mg "_law_bag" = some (.ref f) ∧ Fun K "_law_bag" "_law_bag" s__law_bag f fd
  r__law_draw : ∃ (f : Addr) (fd : FuncData), mg "_law_draw" = some (.ref f) ∧ Fun K "_law_draw" "_law_draw" s__law_draw f fd
  r__law_due : ∃ (f : Addr) (fd : FuncData), mg "_law_due" = some (.ref f) ∧ Fun K "_law_due" "_law_due" s__law_due f fd
  r_is_integer : ∃ (f : Addr) (fd : FuncData), mg "is_integer" = some (.ref f) ∧ Fun K "is_integer" "is_integer" s_is_integer f fd
  r_ratios : ∃ (f : Addr) (fd : FuncData), mg "ratios" = some (.ref f) ∧ Fun K "ratios" "ratios" s_ratios f fd
  r_prime_factors : ∃ (f : Addr) (fd : FuncData), mg "prime_factors" = some (.ref f) ∧ Fun K "prime_factors" "prime_factors" s_prime_factors f fd
  r_tops_spread : ∃ (f : Addr) (fd : FuncData), mg "tops_spread" = some (.ref f) ∧ Fun K "tops_spread" "tops_spread" s_tops_spread f fd
  r_signed_divisors : ∃ (f : Addr) (fd : FuncData), mg "signed_divisors" = some (.ref f) ∧ Fun K "signed_divisors" "signed_divisors" s_signed_divisors f fd
  r_round_length : ∃ (f : Addr) (fd : FuncData), mg "round_length" = some (.ref f) ∧ Fun K "round_length" "round_length" s_round_length f fd
  r_times_gap : ∃ (f : Addr) (fd : FuncData), mg "times_gap" = some (.ref f) ∧ Fun K "times_gap" "times_gap" s_times_gap f fd
  r_over_gap : ∃ (f : Addr) (fd : FuncData), mg "over_gap" = some (.ref f) ∧ Fun K "over_gap" "over_gap" s_over_gap f fd
  r_round_product : ∃ (f : Addr) (fd : FuncData), mg "round_product" = some (.ref f) ∧ Fun K "round_product" "round_product" s_round_product f fd
  r_round_tops : ∃ (f : Addr) (fd : FuncData), mg "round_tops" = some (.ref f) ∧ Fun K "round_tops" "round_tops" s_round_tops f fd
  r_round_factor : ∃ (f : Addr) (fd : FuncData), mg "round_factor" = some (.ref f) ∧ Fun K "round_factor" "round_factor" s_round_factor f fd
  r__law_is_int : ∃ (f : Addr) (fd : FuncData), mg "_law_is_int" = some (.ref f) ∧ Fun K "_law_is_int" "_law_is_int" s__law_is_int f fd
  r__law_lowest : ∃ (f : Addr) (fd : FuncData), mg "_law_lowest" = some (.ref f) ∧ Fun K "_law_lowest" "_law_lowest" s__law_lowest f fd
  r__law_pair : ∃ (f : Addr) (fd : FuncData), mg "_law_pair" = some (.ref f) ∧ Fun K "_law_pair" "_law_pair" s__law_pair f fd
  r__law_pairs : ∃ (f : Addr) (fd : FuncData), mg "_law_pairs" = some (.ref f) ∧ Fun K "_law_pairs" "_law_pairs" s__law_pairs f fd
  r__law_whole : ∃ (f : Addr) (fd : FuncData), mg "_law_whole" = some (.ref f) ∧ Fun K "_law_whole" "_law_whole" s__law_whole f fd
  r_tops_of_ratios : ∃ (f : Addr) (fd : FuncData), mg "tops_of_ratios" = some (.ref f) ∧ Fun K "tops_of_ratios" "tops_of_ratios" s_tops_of_ratios f fd
  r_stripped : ∃ (f : Addr) (fd : FuncData), mg "stripped" = some (.ref f) ∧ Fun K "stripped" "stripped" s_stripped f fd
  r_number : ∃ (f : Addr) (fd : FuncData), mg "number" = some (.ref f) ∧ Fun K "number" "number" s_number f fd
  r_polynomial : ∃ (f : Addr) (fd : FuncData), mg "polynomial" = some (.ref f) ∧ Fun K "polynomial" "polynomial" s_polynomial f fd
  r_tops_turned : ∃ (f : Addr) (fd : FuncData), mg "tops_turned" = some (.ref f) ∧ Fun K "tops_turned" "tops_turned" s_tops_turned f fd
  r_turned : ∃ (f : Addr) (fd : FuncData), mg "turned" = some (.ref f) ∧ Fun K "turned" "turned" s_turned f fd
  r__law_table : ∃ (f : Addr) (fd : FuncData), mg "_law_table" = some (.ref f) ∧ Fun K "_law_table" "_law_table" s__law_table f fd
  r__law_holds : ∃ (f : Addr) (fd : FuncData), mg "_law_holds" = some (.ref f) ∧ Fun K "_law_holds" "_law_holds" s__law_holds f fd
  r_law : ∃ (f : Addr) (fd : FuncData), mg "law" = some (.ref f) ∧ Fun K "law" "law" s_law f fd
section
variable {P : Program} {w : World} {K : PySem.W.Frag} {mg : Str → Option Value} {base : Heap} {T : Tb}
theorem Fx.fd_bottom (q : Fx K mg T) : Fd K T "bottom" ix_bottom := ⟨fun c j h => by
  unfold ix_bottom at h
  split at h
  · rename_i hc
    subst hc
    cases h
    rw [q.nm_Ratio]
    exact ⟨rfl, by decide +kernel, (q.al 0).cl, q.na_Ratio_bottom⟩
  cases h⟩
theorem Fx.fd_top (q : Fx K mg T) : Fd K T "top" ix_top := ⟨fun c j h => by
  unfold ix_top at h
  split at h
  · rename_i hc
    subst hc
    cases h
    rw [q.nm_Ratio]
    exact ⟨rfl, by decide +kernel, (q.al 0).cl, q.na_Ratio_top⟩
  cases h⟩
theorem sc__law_bag : FnScope N__law_bag (["script"] : List Str) (defScope s__law_bag) := ⟨rfl, rfl, rfl, by decide +kernel, rfl, by decide +kernel, by decide +kernel⟩
theorem ok__law_bag (q : Fx K mg T) {f : Addr} {fd : FuncData} (F : Fun K "_law_bag" "_law_bag" s__law_bag f fd) : FnOk P w K mg base (L2.CX P w) 1 f fd (["script"] : List Str) (spM T 1 m__law_bag) :=
  fn_ok F sc__law_bag rfl (by decide) fun cdv A outer s H E hr => (sSs_one (sS_retO (sO_lst (sA_cons (sE_frz (sO_lc rfl sc__law_bag.nd (sI_rng1 (pi_range1 (by rfl) q.n_range (sA_cons (sE_cb (pe_callB (call_min2 rfl) (by rfl) q.n_min (by decide +kernel) (sA_cons sE_int (sA_cons (sE_lenN q.hK (pe_callB call_lenA (by rfl) q.n_len (by decide +kernel) (pa_cons (pv 0) pa_nil))) sA_nil))) caS_min) sA_nil))) (blkOk_by (own := [("k", 1)]) (N := N__law_bag) (sc := defScope s__law_bag) (by decide +kernel)) (fun _ _ _ _ _ => (pg_name (i := 1) sc__law_bag.nd rfl (by first | exact Or.inl rfl | exact Or.inr rfl))) gs_N (fun _ _ _ _ _ => pts_yes) (fun _ _ _ _ _ => (sE_ixN q.hK (pv 0) (sE_nm (pv 1)) (fun _ _ => rfl))))) (sA_cons sE_int (sA_cons sE_int (sA_cons sE_int sA_nil)))))))
theorem df__law_bag (q : Fx K mg T) : Df P w K mg base T "_law_bag" 1 (["script"] : List Str) m__law_bag := by
  obtain ⟨f, fd, h1, h2⟩ := q.r__law_bag
  exact ⟨f, fd, h1, h2.kp, ok__law_bag q h2, h2.binds (ps := (["script"] : List Str)) (fun _ _ _ _ _ _ us hl => match us, hl with | [_], _ => rfl)⟩
theorem sc__law_draw : FnScope N__law_draw (["bag", "size"] : List Str) (defScope s__law_draw) := ⟨rfl, rfl, rfl, by decide +kernel, rfl, by decide +kernel, by decide +kernel⟩
theorem ok__law_draw (q : Fx K mg T) {f : Addr} {fd : FuncData} (F : Fun K "_law_draw" "_law_draw" s__law_draw f fd) : FnOk P w K mg base (L2.CX P w) 1 f fd (["bag", "size"] : List Str) (spQ T 2 m__law_draw) :=
  fnQ_ok F sc__law_draw rfl (by decide) fun cdv A outer s H E hr => (sSs_cons (sS_if (sT_cmp (op_eqD hr.units) opS_eq (sE_ixN q.hK (pv 0) sE_int (fun _ _ => rfl)) sE_int (nomark _))
  (sSs_cons (asg_of (ps_set (i := 2) sc__law_draw.nd rfl (by first | exact Or.inl rfl | exact Or.inr rfl) sE_int) (fun _ _ _ q => q))
  (sSs_cons (sS_if (sT_cmp op_lt opS_lt (sE_ixN q.hK (pv 0) sE_int (fun _ _ => rfl)) (sE_cb (pe_callB call_len (by rfl) q.n_len (by decide +kernel) (sA_cons (sE_ixN q.hK (pv 0) sE_int (fun _ _ => rfl)) sA_nil)) (caS_len q.hK)) (nomark _))
  (sSs_one (asg_of (ps_set (i := 2) sc__law_draw.nd rfl (by first | exact Or.inl rfl | exact Or.inr rfl) (sE_ix ix_seq (opS_ix q.hK) (sE_ixN q.hK (pv 0) sE_int (fun _ _ => rfl)) (sE_ixN q.hK (pv 0) sE_int (fun _ _ => rfl)) (fun _ _ => rfl))) (fun _ _ _ q => q)))
  sSs_nil)
  (sSs_cons (sS_setI (pv 0) sE_int (sE_bin op_addA opS_add (sE_ixN q.hK (pv 0) sE_int (fun _ _ => rfl)) sE_int) rfl rfl rfl (pg_sub (pv 0) sE_int set_list))
  (sSs_one (sS_if (sT_cmp op_ge opS_ge (sE_nm (pv 2)) (sE_bin op_powA opS_pow sE_int sE_int) (nomark _))
  (sSs_one (sS_setI (pv 0) sE_int (sE_bin op_modN opS_mod (sE_cb (pe_callTy call_int1 (by rfl) q.n_int (by decide +kernel) (sA_cons (sE_nm (pv 2)) sA_nil)) caS_int) (sE_bin op_powA opS_pow (sE_bin op_powA opS_pow sE_int sE_int) sE_int)) rfl rfl rfl (pg_sub (pv 0) sE_int set_list)))
  (sSs_cons (asg_of (ps_set (i := 3) sc__law_draw.nd rfl (by first | exact Or.inl rfl | exact Or.inr rfl) (sE_bin op_modN opS_mod (sE_cb (pe_callTy call_int1 (by rfl) q.n_int (by decide +kernel) (sA_cons (sE_bin op_addA opS_add (sE_bin op_addA opS_add (sE_bin op_addA opS_add (sE_bin op_mulA opS_mul (sE_ixN q.hK (pv 0) sE_int (fun _ _ => rfl)) sE_int) (sE_bin op_mulA opS_mul (sE_nm (pv 2)) sE_int)) (sE_bin op_mulA opS_mul (sE_ixN q.hK (pv 0) sE_int (fun _ _ => rfl)) sE_int)) sE_int) sA_nil)) caS_int) sE_int)) (fun _ _ _ q => q))
  (sSs_cons (sS_setI (pv 0) sE_int (sE_nm (pv 3)) rfl rfl rfl (pg_sub (pv 0) sE_int set_list))
  (sSs_one (sS_setI (pv 0) sE_int (sE_bin op_modN opS_mod (sE_cb (pe_callTy call_int1 (by rfl) q.n_int (by decide +kernel) (sA_cons (sE_bin op_addA opS_add (sE_bin op_addA opS_add (sE_bin op_mulA opS_mul (sE_bin op_mulA opS_mul (sE_nm (pv 3)) (sE_nm (pv 3))) (sE_nm (pv 3))) (sE_bin op_mulA opS_mul sE_int (sE_nm (pv 3)))) (sE_ixN q.hK (pv 0) sE_int (fun _ _ => rfl))) sA_nil)) caS_int) sE_int) rfl rfl rfl (pg_sub (pv 0) sE_int set_list))))))))))
  sSs_nil)
  (sSs_cons (asg_of (ps_set (i := 4) sc__law_draw.nd rfl (by first | exact Or.inl rfl | exact Or.inr rfl) (sE_bin op_modN opS_mod (sE_cb (pe_callTy call_int1 (by rfl) q.n_int (by decide +kernel) (sA_cons (sE_ixN q.hK (pv 0) sE_int (fun _ _ => rfl)) sA_nil)) caS_int) (sE_nm (pv 1)))) (fun _ _ _ q => q))
  (sSs_cons (sS_setI (pv 0) sE_int (sE_bin op_divA opS_div (sE_cb (pe_callTy call_int1 (by rfl) q.n_int (by decide +kernel) (sA_cons (sE_ixN q.hK (pv 0) sE_int (fun _ _ => rfl)) sA_nil)) caS_int) (sE_nm (pv 1))) rfl rfl rfl (pg_sub (pv 0) sE_int set_list))
  (sSs_one (sS_retNm (pv 4))))))
theorem df__law_draw (q : Fx K mg T) : Dq P w K mg base T "_law_draw" 1 (["bag", "size"] : List Str) m__law_draw := by
  obtain ⟨f, fd, h1, h2⟩ := q.r__law_draw
  exact ⟨f, fd, h1, h2.kp, ok__law_draw q h2, h2.binds (ps := (["bag", "size"] : List Str)) (fun _ _ _ _ _ _ us hl => match us, hl with | [_, _], _ => rfl)⟩
theorem sc__law_due : FnScope N__law_due (["size"] : List Str) (defScope s__law_due) := ⟨rfl, rfl, rfl, by decide +kernel, rfl, by decide +kernel, by decide +kernel⟩
theorem ok__law_due (q : Fx K mg T) {f : Addr} {fd : FuncData} (F : Fun K "_law_due" "_law_due" s__law_due f fd) : FnOk P w K mg base (L2.CX P w) 1 f fd (["size"] : List Str) (spM T 1 m__law_due) :=
  fn_ok F sc__law_due rfl (by decide) fun cdv A outer s H E hr => (sSs_cons (asgO_of (ps_set (i := 1) sc__law_due.nd rfl (by first | exact Or.inl rfl | exact Or.inr rfl) (sO_lst (sA_cons (sE_tup (sA_cons sE_int (sA_cons sE_int sA_nil))) sA_nil))) (fun _ _ _ q => q))
  (sSs_cons (asg_of (ps_set (i := 2) sc__law_due.nd rfl (by first | exact Or.inl rfl | exact Or.inr rfl) (sE_nm (pv 0))) (fun _ _ _ q => q))
  (sSs_cons (sS_for (passes_of rfl) rfl (sI_rng2 (pi_range2 (by rfl) q.n_range (sA_cons sE_int (sA_cons (sE_bin op_addA opS_add (sE_nm (pv 0)) sE_int) sA_nil)))) (pg_name (i := 3) sc__law_due.nd rfl (by first | exact Or.inl rfl | exact Or.inr rfl)) gs_N
  (sSs_one (sS_if (sT_cmp (op_eqD hr.units) opS_eq (sE_bin op_modN opS_mod (sE_cb (pe_callTy call_int1 (by rfl) q.n_int (by decide +kernel) (sA_cons (sE_nm (pv 2)) sA_nil)) caS_int) (sE_nm (pv 3))) sE_int (nomark _))
  (sSs_cons (asgO_of (ps_set (i := 1) sc__law_due.nd rfl (by first | exact Or.inl rfl | exact Or.inr rfl) (sO_bin op_cat opO_cat (sE_nm (pv 1)) (sE_frz (sO_lc rfl sc__law_due.nd (sI_seq q.hK (sE_nm (pv 1))) (blkOk_by (own := [("one", 6)]) (N := N__law_due) (sc := defScope s__law_due) (by decide +kernel)) (fun _ _ _ _ _ => (pg_name (i := 6) sc__law_due.nd rfl (by first | exact Or.inl rfl | exact Or.inr rfl))) gs_N (fun _ _ _ _ _ => pts_yes) (fun _ _ _ _ _ => (sE_tup (sA_cons (sE_bin op_mulA opS_mul (sE_ixN q.hK (pv 6) sE_int (fun _ _ => rfl)) (sE_nm (pv 3))) (sA_cons (sE_un un_neg unS_neg (sE_ixN q.hK (pv 6) sE_int (fun _ _ => rfl))) sA_nil)))))))) (fun _ _ _ q => q))
  (sSs_one (sS_for (passes_of rfl) rfl (sI_rng1 (pi_range1 (by rfl) q.n_range (sA_cons sE_int sA_nil))) (pg_name (i := 4) sc__law_due.nd rfl (by first | exact Or.inl rfl | exact Or.inr rfl)) gs_N
  (sSs_one (sS_if (sT_cmp (op_eqD hr.units) opS_eq (sE_bin op_modN opS_mod (sE_cb (pe_callTy call_int1 (by rfl) q.n_int (by decide +kernel) (sA_cons (sE_nm (pv 2)) sA_nil)) caS_int) (sE_nm (pv 3))) sE_int (nomark _))
  (sSs_one (asg_of (ps_set (i := 2) sc__law_due.nd rfl (by first | exact Or.inl rfl | exact Or.inr rfl) (sE_bin op_divA opS_div (sE_nm (pv 2)) (sE_nm (pv 3)))) (fun _ _ _ q => q)))
  sSs_nil)))))
  sSs_nil)))
  (sSs_cons (asgO_of (ps_set (i := 5) sc__law_due.nd rfl (by first | exact Or.inl rfl | exact Or.inr rfl) (sO_lst (sA_cons sE_int sA_nil))) (fun _ _ _ q => q))
  (sSs_cons (sS_for (passes_of rfl) rfl (sI_seq q.hK (sE_nm (pv 1))) (pg_name (i := 6) sc__law_due.nd rfl (by first | exact Or.inl rfl | exact Or.inr rfl)) gs_N
  (sSs_one (sS_if (sT_cmp (op_eqD hr.units) opS_eq (sE_ixN q.hK (pv 6) sE_int (fun _ _ => rfl)) sE_int (nomark _))
  (sSs_cons (asg_of (ps_set (i := 7) sc__law_due.nd rfl (by first | exact Or.inl rfl | exact Or.inr rfl) (sE_bin op_divA opS_div (sE_nm (pv 0)) (sE_ixN q.hK (pv 6) sE_int (fun _ _ => rfl)))) (fun _ _ _ q => q))
  (sSs_one (asgO_of (ps_set (i := 5) sc__law_due.nd rfl (by first | exact Or.inl rfl | exact Or.inr rfl) (sO_lc rfl sc__law_due.nd (sI_rng1 (pi_range1 (by rfl) q.n_range (sA_cons (sE_bin op_addA opS_add (sE_lenN q.hK (pe_callB call_lenA (by rfl) q.n_len (by decide +kernel) (pa_cons (pv 5) pa_nil))) (sE_nm (pv 7))) sA_nil))) (blkOk_by (own := [("k", 4)]) (N := N__law_due) (sc := defScope s__law_due) (by decide +kernel)) (fun _ _ _ _ _ => (pg_name (i := 4) sc__law_due.nd rfl (by first | exact Or.inl rfl | exact Or.inr rfl))) gs_N (fun _ _ _ _ _ => pts_yes) (fun _ _ _ _ _ => (sE_bin op_sub opS_sub (sE_if (sT_cmp op_ge opS_ge (sE_nm (pv 4)) (sE_nm (pv 7)) (nomark _)) (sE_ixN q.hK (pv 5) (sE_bin op_sub opS_sub (sE_nm (pv 4)) (sE_nm (pv 7))) (fun _ _ => rfl)) sE_int) (sE_if (sT_cmp op_lt opS_lt (sE_nm (pv 4)) (sE_lenN q.hK (pe_callB call_lenA (by rfl) q.n_len (by decide +kernel) (pa_cons (pv 5) pa_nil))) (nomark _)) (sE_ixN q.hK (pv 5) (sE_nm (pv 4)) (fun _ _ => rfl)) sE_int))))) (fun _ _ _ q => q))))
  sSs_nil)))
  (sSs_cons (sS_for (passes_of rfl) rfl (sI_seq q.hK (sE_nm (pv 1))) (pg_name (i := 6) sc__law_due.nd rfl (by first | exact Or.inl rfl | exact Or.inr rfl)) gs_N
  (sSs_one (sS_if (sT_cmp (op_eqD hr.units) opS_eq (sE_ixN q.hK (pv 6) sE_int (fun _ _ => rfl)) (sE_un un_neg unS_neg sE_int) (nomark _))
  (sSs_cons (asg_of (ps_set (i := 7) sc__law_due.nd rfl (by first | exact Or.inl rfl | exact Or.inr rfl) (sE_bin op_divA opS_div (sE_nm (pv 0)) (sE_ixN q.hK (pv 6) sE_int (fun _ _ => rfl)))) (fun _ _ _ q => q))
  (sSs_cons (asgO_of (ps_set (i := 8) sc__law_due.nd rfl (by first | exact Or.inl rfl | exact Or.inr rfl) (sO_lst sA_nil)) (fun _ _ _ q => q))
  (sSs_cons (sS_for (passes_of rfl) rfl (sI_rng1 (pi_range1 (by rfl) q.n_range (sA_cons (sE_bin op_sub opS_sub (sE_lenN q.hK (pe_callB call_lenA (by rfl) q.n_len (by decide +kernel) (pa_cons (pv 5) pa_nil))) (sE_nm (pv 7))) sA_nil))) (pg_name (i := 4) sc__law_due.nd rfl (by first | exact Or.inl rfl | exact Or.inr rfl)) gs_N
  (sSs_one (sS_app (pe_bm PySem.F.plainAttrs_list PySem.F.slot_list_append PySem.F.type_list_append mt_append (pv 8) (sA_cons (sE_bin op_sub opS_sub (sE_if (sT_cmp op_ge opS_ge (sE_nm (pv 4)) (sE_nm (pv 7)) (nomark _)) (sE_ixN q.hK (pv 8) (sE_bin op_sub opS_sub (sE_nm (pv 4)) (sE_nm (pv 7))) (fun _ _ => rfl)) sE_int) (sE_ixN q.hK (pv 5) (sE_nm (pv 4)) (fun _ _ => rfl))) sA_nil)))))
  (sSs_one (asg_of (ps_set (i := 5) sc__law_due.nd rfl (by first | exact Or.inl rfl | exact Or.inr rfl) (sE_nm (pv 8))) (fun _ _ _ q => q))))))
  sSs_nil)))
  (sSs_one (sS_retNm (pv 5)))))))))
theorem df__law_due (q : Fx K mg T) : Df P w K mg base T "_law_due" 1 (["size"] : List Str) m__law_due := by
  obtain ⟨f, fd, h1, h2⟩ := q.r__law_due
  exact ⟨f, fd, h1, h2.kp, ok__law_due q h2, h2.binds (ps := (["size"] : List Str)) (fun _ _ _ _ _ _ us hl => match us, hl with | [_], _ => rfl)⟩
theorem sc_is_integer : FnScope N_is_integer (["value"] : List Str) (defScope s_is_integer) := ⟨rfl, rfl, rfl, by decide +kernel, rfl, by decide +kernel, by decide +kernel⟩
theorem ok_is_integer (q : Fx K mg T) {f : Addr} {fd : FuncData} (F : Fun K "is_integer" "is_integer" s_is_integer f fd) : FnOk P w K mg base (L2.CX P w) 1 f fd (["value"] : List Str) (spM T 1 m_is_integer) :=
  fn_ok F sc_is_integer rfl (by decide) fun cdv A outer s H E hr => (sSs_one (sS_ret (sE_and (sE_isTy (t := .int) q.hK q.al (by rfl) q.n_isinstance (sE_nm (pv 0)) (pe_bltn (by rfl) q.n_int (by decide +kernel) rfl)) (sE_one (sE_not (sE_isTy (t := .bool) q.hK q.al (by rfl) q.n_isinstance (sE_nm (pv 0)) (pe_bltn (by rfl) q.n_bool (by decide +kernel) rfl)))))))
theorem df_is_integer (q : Fx K mg T) : Df P w K mg base T "is_integer" 1 (["value"] : List Str) m_is_integer := by
  obtain ⟨f, fd, h1, h2⟩ := q.r_is_integer
  exact ⟨f, fd, h1, h2.kp, ok_is_integer q h2, h2.binds (ps := (["value"] : List Str)) (fun _ _ _ _ _ _ us hl => match us, hl with | [_], _ => rfl)⟩
theorem sc_Ratio_init : FnScope N_Ratio_init (["self", "top", "bottom"] : List Str) (defScope s_Ratio_init) := ⟨rfl, rfl, rfl, by decide +kernel, rfl, by decide +kernel, by decide +kernel⟩
theorem ok_Ratio_init (q : Fx K mg T) {f : Addr} {fd : FuncData} (F : FunB K "__init__" "Ratio.__init__" s_Ratio_init f fd (["self", "top", "bottom"] : List Str)) : FnOk P w K mg base (L2.CX P w) 2 f fd (["self", "top", "bottom"] : List Str) (spQ T 3 m_Ratio_init) :=
  fnQ_okB F sc_Ratio_init rfl (by decide) fun cdv A outer s H E hr => (sSs_cons (sS_if (sT_bo (sT_or (sT_not (sT_tru (sE_call (df_is_integer q) fn_np (hr.mono (by decide)) (by rfl) takesK (sA_cons (sE_nm (pv 1)) sA_nil)))) (sT_or1 (sT_not (sT_tru (sE_call (df_is_integer q) fn_np (hr.mono (by decide)) (by rfl) takesK (sA_cons (sE_nm (pv 2)) sA_nil)))))))
  (sSs_one sS_st)
  sSs_nil)
  (sSs_cons (sS_if (sT_cmp (op_eqD hr.units) opS_eq (sE_nm (pv 2)) sE_int (nomark _))
  (sSs_one sS_st)
  sSs_nil)
  (sSs_cons (asg_of (ps_set (i := 3) sc_Ratio_init.nd rfl (by first | exact Or.inl rfl | exact Or.inr rfl) (sE_cb (pe_callBfun cr_gcd (by rfl) q.i_gcd (sA_cons (sE_nm (pv 1)) (sA_cons (sE_nm (pv 2)) sA_nil))) caS_gcd)) (fun _ _ _ q => q))
  (sSs_cons (sS_if (sT_cmp op_lt opS_lt (sE_nm (pv 2)) sE_int (nomark _))
  (sSs_one (asg_of (ps_set (i := 3) sc_Ratio_init.nd rfl (by first | exact Or.inl rfl | exact Or.inr rfl) (sE_un un_neg unS_neg (sE_nm (pv 3)))) (fun _ _ _ q => q)))
  sSs_nil)
  (sSs_cons (sS_setF (ps_fld (pv 0) (sE_bin op_divA opS_div (sE_nm (pv 1)) (sE_nm (pv 3))) rfl) (q.al 0).cl q.na_Ratio_top)
  (sSs_one (sS_setF (ps_fld (pv 0) (sE_bin op_divA opS_div (sE_nm (pv 2)) (sE_nm (pv 3))) rfl) (q.al 0).cl q.na_Ratio_bottom)))))))
theorem make_Ratio {X : Cx} {E : XK} {pos p : Pos} {e : Expr} {es : List Expr} {fr : FA} (q : Fx X.K X.mg T) (hr : Room 3 X.A) (hg : Gl X "Ratio") (tk : Takes X (WK E)) (ha : SA X T (WK E) (e :: es) fr)
    (he : starEach (e :: es) X.env = (false, eval e X.env) :: starEach es X.env := by rfl) (hpl : (backTo pos (starEach es X.env)).any (·.1) = false := by rfl) :
    SE X T (WK E) (.Call (.Name "Ratio" p) (e :: es) [] pos) (EV.call mk_Ratio fr) := by
  obtain ⟨f, fd, M, F⟩ := q.in_Ratio
  have h := sE_make (c := 0) (dd := []) (pos := pos) (p := p) M (ok_Ratio_init (P := X.prog) (w := X.w) (base := X.base) q F) rfl hr hg q.g_Ratio F.bd .nil (fun _ => .nil) fnQ_np tk ha (by decide) he hpl
  rw [q.nm_Ratio] at h
  have e1 : (fun xs : List D => EV.mk 0 ["top", "bottom"] m_Ratio_init (xs ++ [])) = mk_Ratio := by
    funext xs
    rw [List.append_nil]
    rfl
  rw [e1] at h
  exact h
theorem sc_ratios : FnScope N_ratios (["tops", "bottom"] : List Str) (defScope s_ratios) := ⟨rfl, rfl, rfl, by decide +kernel, rfl, by decide +kernel, by decide +kernel⟩
theorem ok_ratios (q : Fx K mg T) {f : Addr} {fd : FuncData} (F : Fun K "ratios" "ratios" s_ratios f fd) : FnOk P w K mg base (L2.CX P w) 4 f fd (["tops", "bottom"] : List Str) (spM T 2 m_ratios) :=
  fn_ok F sc_ratios rfl (by decide) fun cdv A outer s H E hr => (sSs_one (sS_ret (sE_cb (pe_callTy call_tuple_of (by rfl) q.n_tuple (by decide +kernel) (sA_cons (sE_frz (sO_lc rfl sc_ratios.nd (sI_seq q.hK (sE_nm (pv 0))) (blkOk_by (own := [("top", 2)]) (N := N_ratios) (sc := defScope s_ratios) (by decide +kernel)) (fun _ _ _ _ _ => (pg_name (i := 2) sc_ratios.nd rfl (by first | exact Or.inl rfl | exact Or.inr rfl))) gs_N (fun _ _ _ _ _ => pts_yes) (fun _ _ _ _ _ => (make_Ratio q (hr.mono (by decide)) (by rfl) takes0 (sA_cons (sE_nm (pv 2)) (sA_cons (sE_nm (pv 1)) sA_nil)))))) sA_nil)) caS_tuple)))
theorem df_ratios (q : Fx K mg T) : Df P w K mg base T "ratios" 4 (["tops", "bottom"] : List Str) m_ratios := by
  obtain ⟨f, fd, h1, h2⟩ := q.r_ratios
  exact ⟨f, fd, h1, h2.kp, ok_ratios q h2, h2.binds (ps := (["tops", "bottom"] : List Str)) (fun _ _ _ _ _ _ us hl => match us, hl with | [_, _], _ => rfl)⟩
theorem sc_prime_factors : FnScope N_prime_factors (["m"] : List Str) (defScope s_prime_factors) := ⟨rfl, rfl, rfl, by decide +kernel, rfl, by decide +kernel, by decide +kernel⟩
theorem ok_prime_factors (q : Fx K mg T) {f : Addr} {fd : FuncData} (F : Fun K "prime_factors" "prime_factors" s_prime_factors f fd) : FnOk P w K mg base (L2.CX P w) 1 f fd (["m"] : List Str) (spM T 1 m_prime_factors) :=
  fn_ok F sc_prime_factors rfl (by decide) fun cdv A outer s H E hr => (sSs_cons (asgO_of (ps_set (i := 1) sc_prime_factors.nd rfl (by first | exact Or.inl rfl | exact Or.inr rfl) (sO_lst sA_nil)) (fun _ _ _ q => q))
  (sSs_cons (asg_of (ps_set (i := 2) sc_prime_factors.nd rfl (by first | exact Or.inl rfl | exact Or.inr rfl) (sE_nm (pv 0))) (fun _ _ _ q => q))
  (sSs_cons (asg_of (ps_set (i := 3) sc_prime_factors.nd rfl (by first | exact Or.inl rfl | exact Or.inr rfl) sE_int) (fun _ _ _ q => q))
  (sSs_cons (sS_while (passes_of rfl) (sT_cmp op_le opS_le (sE_bin op_mulA opS_mul (sE_nm (pv 3)) (sE_nm (pv 3))) (sE_nm (pv 2)) (nomark _))
  (sSs_cons (sS_if (sT_cmp (op_eqD hr.units) opS_eq (sE_bin op_modN opS_mod (sE_nm (pv 2)) (sE_nm (pv 3))) sE_int (nomark _))
  (sSs_cons (sS_app (pe_bm PySem.F.plainAttrs_list PySem.F.slot_list_append PySem.F.type_list_append mt_append (pv 1) (sA_cons (sE_nm (pv 3)) sA_nil)))
  (sSs_one (sS_while (passes_of rfl) (sT_cmp (op_eqD hr.units) opS_eq (sE_bin op_modN opS_mod (sE_nm (pv 2)) (sE_nm (pv 3))) sE_int (nomark _))
  (sSs_one (sS_aug (ps_aug (i := 2) sc_prime_factors.nd rfl (by first | exact Or.inl rfl | exact Or.inr rfl) (sE_nm (pv 3)) iop_divA) opS_div)))))
  sSs_nil)
  (sSs_one (sS_aug (ps_aug (i := 3) sc_prime_factors.nd rfl (by first | exact Or.inl rfl | exact Or.inr rfl) sE_int iop_add) opS_addI))))
  (sSs_one (sS_ret (sE_if (sT_cmp op_gt opS_gt (sE_nm (pv 2)) sE_int (nomark _)) (sE_bin op_addA opS_add (sE_nm (pv 1)) (sE_frz (sO_lst (sA_cons (sE_nm (pv 2)) sA_nil)))) (sE_nm (pv 1)))))))))
theorem df_prime_factors (q : Fx K mg T) : Df P w K mg base T "prime_factors" 1 (["m"] : List Str) m_prime_factors := by
  obtain ⟨f, fd, h1, h2⟩ := q.r_prime_factors
  exact ⟨f, fd, h1, h2.kp, ok_prime_factors q h2, h2.binds (ps := (["m"] : List Str)) (fun _ _ _ _ _ _ us hl => match us, hl with | [_], _ => rfl)⟩
theorem sc_tops_spread : FnScope N_tops_spread (["tops", "m"] : List Str) (defScope s_tops_spread) := ⟨rfl, rfl, rfl, by decide +kernel, rfl, by decide +kernel, by decide +kernel⟩
theorem ok_tops_spread (q : Fx K mg T) {f : Addr} {fd : FuncData} (F : Fun K "tops_spread" "tops_spread" s_tops_spread f fd) : FnOk P w K mg base (L2.CX P w) 1 f fd (["tops", "m"] : List Str) (spM T 2 m_tops_spread) :=
  fn_ok F sc_tops_spread rfl (by decide) fun cdv A outer s H E hr => (sSs_cons (sS_if (sT_not (sT_tru (sE_nm (pv 0))))
  (sSs_one (sS_retO (sO_lst sA_nil)))
  sSs_nil)
  (sSs_cons (setLc rfl sc_tops_spread.nd rfl rfl (sw_true rfl rfl rfl (by decide +kernel)) (sI_rng1 (pi_range1 (by rfl) q.n_range (sA_cons (sE_bin op_addA opS_add (sE_bin op_mulA opS_mul (sE_bin op_sub opS_sub (sE_lenN q.hK (pe_callB call_lenA (by rfl) q.n_len (by decide +kernel) (pa_cons (pv 0) pa_nil))) sE_int) (sE_nm (pv 1))) sE_int) sA_nil))) (blkOk_by (own := [("_", 5)]) (N := N_tops_spread) (sc := defScope s_tops_spread) (by decide +kernel)) (fun _ _ _ _ _ => (pg_name (i := 5) sc_tops_spread.nd rfl (by first | exact Or.inl rfl | exact Or.inr rfl))) gs_N (fun _ _ _ _ _ => pts_yes) (fun _ _ _ _ _ => sE_int))
  (sSs_cons (sS_for (passes_of rfl) rfl (sI_enum (pi_enum (by rfl) q.n_enumerate (sA_cons (sE_nm (pv 0)) sA_nil))) (pg_tup rfl (pgs_cons (pg_name (i := 3) sc_tops_spread.nd rfl (by first | exact Or.inl rfl | exact Or.inr rfl)) (pgs_cons (pg_name (i := 4) sc_tops_spread.nd rfl (by first | exact Or.inl rfl | exact Or.inr rfl)) pgs_nil))) (gs_T (gs_cons gs_N (gs_cons gs_N gs_nil)))
  (sSs_one (sS_setI (pv 2) (sE_bin op_mulA opS_mul (sE_nm (pv 3)) (sE_nm (pv 1))) (sE_nm (pv 4)) rfl rfl rfl (pg_sub (pv 2) (sE_bin op_mulA opS_mul (sE_nm (pv 3)) (sE_nm (pv 1))) set_list))))
  (sSs_one (sS_retNm (pv 2))))))
theorem df_tops_spread (q : Fx K mg T) : Df P w K mg base T "tops_spread" 1 (["tops", "m"] : List Str) m_tops_spread := by
  obtain ⟨f, fd, h1, h2⟩ := q.r_tops_spread
  exact ⟨f, fd, h1, h2.kp, ok_tops_spread q h2, h2.binds (ps := (["tops", "m"] : List Str)) (fun _ _ _ _ _ _ us hl => match us, hl with | [_, _], _ => rfl)⟩
theorem sc_signed_divisors : FnScope N_signed_divisors (["m"] : List Str) (defScope s_signed_divisors) := ⟨rfl, rfl, rfl, by decide +kernel, rfl, by decide +kernel, by decide +kernel⟩
theorem ok_signed_divisors (q : Fx K mg T) {f : Addr} {fd : FuncData} (F : Fun K "signed_divisors" "signed_divisors" s_signed_divisors f fd) : FnOk P w K mg base (L2.CX P w) 2 f fd (["m"] : List Str) (spM T 1 m_signed_divisors) :=
  fn_ok F sc_signed_divisors rfl (by decide) fun cdv A outer s H E hr => (sSs_cons (asgO_of (ps_set (i := 1) sc_signed_divisors.nd rfl (by first | exact Or.inl rfl | exact Or.inr rfl) (sO_lst (sA_cons (sE_tup (sA_cons (sE_nm (pv 0)) (sA_cons sE_int sA_nil))) sA_nil))) (fun _ _ _ q => q))
  (sSs_cons (sS_for (passes_of rfl) rfl (sI_seq q.hK (sE_call (df_prime_factors q) fn_np (hr.mono (by decide)) (by rfl) takesK (sA_cons (sE_nm (pv 0)) sA_nil))) (pg_name (i := 2) sc_signed_divisors.nd rfl (by first | exact Or.inl rfl | exact Or.inr rfl)) gs_N
  (sSs_one (asgO_of (ps_set (i := 1) sc_signed_divisors.nd rfl (by first | exact Or.inl rfl | exact Or.inr rfl) (sO_bin op_cat opO_cat (sE_nm (pv 1)) (sE_frz (sO_lc rfl sc_signed_divisors.nd (sI_seq q.hK (sE_nm (pv 1))) (blkOk_by (own := [("e", 3), ("sign", 4)]) (N := N_signed_divisors) (sc := defScope s_signed_divisors) (by decide +kernel)) (fun _ _ _ _ _ => (pg_tup rfl (pgs_cons (pg_name (i := 3) sc_signed_divisors.nd rfl (by first | exact Or.inl rfl | exact Or.inr rfl)) (pgs_cons (pg_name (i := 4) sc_signed_divisors.nd rfl (by first | exact Or.inl rfl | exact Or.inr rfl)) pgs_nil)))) (gs_T (gs_cons gs_N (gs_cons gs_N gs_nil))) (fun _ _ _ _ _ => pts_yes) (fun _ _ _ _ _ => (sE_tup (sA_cons (sE_bin op_divA opS_div (sE_nm (pv 3)) (sE_nm (pv 2))) (sA_cons (sE_un un_neg unS_neg (sE_nm (pv 4))) sA_nil)))))))) (fun _ _ _ q => q))))
  (sSs_one (sS_retNm (pv 1)))))
theorem df_signed_divisors (q : Fx K mg T) : Df P w K mg base T "signed_divisors" 2 (["m"] : List Str) m_signed_divisors := by
  obtain ⟨f, fd, h1, h2⟩ := q.r_signed_divisors
  exact ⟨f, fd, h1, h2.kp, ok_signed_divisors q h2, h2.binds (ps := (["m"] : List Str)) (fun _ _ _ _ _ _ us hl => match us, hl with | [_], _ => rfl)⟩
theorem sc_round_length : FnScope N_round_length (["m"] : List Str) (defScope s_round_length) := ⟨rfl, rfl, rfl, by decide +kernel, rfl, by decide +kernel, by decide +kernel⟩
theorem ok_round_length (q : Fx K mg T) {f : Addr} {fd : FuncData} (F : Fun K "round_length" "round_length" s_round_length f fd) : FnOk P w K mg base (L2.CX P w) 2 f fd (["m"] : List Str) (spM T 1 m_round_length) :=
  fn_ok F sc_round_length rfl (by decide) fun cdv A outer s H E hr => (sSs_cons (asg_of (ps_set (i := 1) sc_round_length.nd rfl (by first | exact Or.inl rfl | exact Or.inr rfl) (sE_nm (pv 0))) (fun _ _ _ q => q))
  (sSs_cons (sS_for (passes_of rfl) rfl (sI_seq q.hK (sE_call (df_prime_factors q) fn_np (hr.mono (by decide)) (by rfl) takesK (sA_cons (sE_nm (pv 0)) sA_nil))) (pg_name (i := 2) sc_round_length.nd rfl (by first | exact Or.inl rfl | exact Or.inr rfl)) gs_N
  (sSs_one (asg_of (ps_set (i := 1) sc_round_length.nd rfl (by first | exact Or.inl rfl | exact Or.inr rfl) (sE_bin op_mulA opS_mul (sE_bin op_divA opS_div (sE_nm (pv 1)) (sE_nm (pv 2))) (sE_bin op_sub opS_sub (sE_nm (pv 2)) sE_int))) (fun _ _ _ q => q))))
  (sSs_one (sS_retNm (pv 1)))))
theorem df_round_length (q : Fx K mg T) : Df P w K mg base T "round_length" 2 (["m"] : List Str) m_round_length := by
  obtain ⟨f, fd, h1, h2⟩ := q.r_round_length
  exact ⟨f, fd, h1, h2.kp, ok_round_length q h2, h2.binds (ps := (["m"] : List Str)) (fun _ _ _ _ _ _ us hl => match us, hl with | [_], _ => rfl)⟩
theorem sc_times_gap : FnScope N_times_gap (["tops", "e"] : List Str) (defScope s_times_gap) := ⟨rfl, rfl, rfl, by decide +kernel, rfl, by decide +kernel, by decide +kernel⟩
theorem ok_times_gap (q : Fx K mg T) {f : Addr} {fd : FuncData} (F : Fun K "times_gap" "times_gap" s_times_gap f fd) : FnOk P w K mg base (L2.CX P w) 1 f fd (["tops", "e"] : List Str) (spM T 2 m_times_gap) :=
  fn_ok F sc_times_gap rfl (by decide) fun cdv A outer s H E hr => (sSs_one (sS_retO (sO_lc rfl sc_times_gap.nd (sI_enum (pi_enum (by rfl) q.n_enumerate (sA_cons (sE_nm (pv 0)) sA_nil))) (blkOk_by (own := [("at", 2), ("top", 3)]) (N := N_times_gap) (sc := defScope s_times_gap) (by decide +kernel)) (fun _ _ _ _ _ => (pg_tup rfl (pgs_cons (pg_name (i := 2) sc_times_gap.nd rfl (by first | exact Or.inl rfl | exact Or.inr rfl)) (pgs_cons (pg_name (i := 3) sc_times_gap.nd rfl (by first | exact Or.inl rfl | exact Or.inr rfl)) pgs_nil)))) (gs_T (gs_cons gs_N (gs_cons gs_N gs_nil))) (fun _ _ _ _ _ => pts_yes) (fun _ _ _ _ _ => (sE_if (sT_cmp op_ge opS_ge (sE_nm (pv 2)) (sE_nm (pv 1)) (nomark _)) (sE_bin op_sub opS_sub (sE_nm (pv 3)) (sE_ixN q.hK (pv 0) (sE_bin op_sub opS_sub (sE_nm (pv 2)) (sE_nm (pv 1))) (fun _ _ => rfl))) (sE_nm (pv 3)))))))
theorem df_times_gap (q : Fx K mg T) : Df P w K mg base T "times_gap" 1 (["tops", "e"] : List Str) m_times_gap := by
  obtain ⟨f, fd, h1, h2⟩ := q.r_times_gap
  exact ⟨f, fd, h1, h2.kp, ok_times_gap q h2, h2.binds (ps := (["tops", "e"] : List Str)) (fun _ _ _ _ _ _ us hl => match us, hl with | [_, _], _ => rfl)⟩
theorem sc_over_gap : FnScope N_over_gap (["tops", "e"] : List Str) (defScope s_over_gap) := ⟨rfl, rfl, rfl, by decide +kernel, rfl, by decide +kernel, by decide +kernel⟩
theorem ok_over_gap (q : Fx K mg T) {f : Addr} {fd : FuncData} (F : Fun K "over_gap" "over_gap" s_over_gap f fd) : FnOk P w K mg base (L2.CX P w) 1 f fd (["tops", "e"] : List Str) (spM T 2 m_over_gap) :=
  fn_ok F sc_over_gap rfl (by decide) fun cdv A outer s H E hr => (sSs_cons (asgO_of (ps_set (i := 2) sc_over_gap.nd rfl (by first | exact Or.inl rfl | exact Or.inr rfl) (sO_cb (pe_callTy call_list_of (by rfl) q.n_list (by decide +kernel) (sA_cons (sE_nm (pv 0)) sA_nil)) (caO_list q.hK))) (fun _ _ _ q => q))
  (sSs_cons (sS_for (passes_of rfl) rfl (sI_rng2 (pi_range2 (by rfl) q.n_range (sA_cons (sE_nm (pv 1)) (sA_cons (sE_lenN q.hK (pe_callB call_lenA (by rfl) q.n_len (by decide +kernel) (pa_cons (pv 2) pa_nil))) sA_nil)))) (pg_name (i := 3) sc_over_gap.nd rfl (by first | exact Or.inl rfl | exact Or.inr rfl)) gs_N
  (sSs_one (sS_setI (pv 2) (sE_nm (pv 3)) (sE_bin op_addA opS_add (sE_ixN q.hK (pv 2) (sE_nm (pv 3)) (fun _ _ => rfl)) (sE_ixN q.hK (pv 2) (sE_bin op_sub opS_sub (sE_nm (pv 3)) (sE_nm (pv 1))) (fun _ _ => rfl))) rfl rfl rfl (pg_sub (pv 2) (sE_nm (pv 3)) set_list))))
  (sSs_one (sS_retNm (pv 2)))))
theorem df_over_gap (q : Fx K mg T) : Df P w K mg base T "over_gap" 1 (["tops", "e"] : List Str) m_over_gap := by
  obtain ⟨f, fd, h1, h2⟩ := q.r_over_gap
  exact ⟨f, fd, h1, h2.kp, ok_over_gap q h2, h2.binds (ps := (["tops", "e"] : List Str)) (fun _ _ _ _ _ _ us hl => match us, hl with | [_, _], _ => rfl)⟩
theorem sc_round_product : FnScope N_round_product (["indexes"] : List Str) (defScope s_round_product) := ⟨rfl, rfl, rfl, by decide +kernel, rfl, by decide +kernel, by decide +kernel⟩
theorem ok_round_product (q : Fx K mg T) {f : Addr} {fd : FuncData} (F : Fun K "round_product" "round_product" s_round_product f fd) : FnOk P w K mg base (L2.CX P w) 3 f fd (["indexes"] : List Str) (spM T 1 m_round_product) :=
  fn_ok F sc_round_product rfl (by decide) fun cdv A outer s H E hr => (sSs_cons (asgO_of (ps_set (i := 1) sc_round_product.nd rfl (by first | exact Or.inl rfl | exact Or.inr rfl) sO_newD) (fun _ _ _ q => q))
  (sSs_cons (sS_for (passes_of rfl) rfl (sI_seq q.hK (sE_nm (pv 0))) (pg_name (i := 2) sc_round_product.nd rfl (by first | exact Or.inl rfl | exact Or.inr rfl)) gs_N
  (sSs_one (sS_for (passes_of rfl) rfl (sI_seq q.hK (sE_call (df_signed_divisors q) fn_np (hr.mono (by decide)) (by rfl) takesK (sA_cons (sE_nm (pv 2)) sA_nil))) (pg_tup rfl (pgs_cons (pg_name (i := 3) sc_round_product.nd rfl (by first | exact Or.inl rfl | exact Or.inr rfl)) (pgs_cons (pg_name (i := 4) sc_round_product.nd rfl (by first | exact Or.inl rfl | exact Or.inr rfl)) pgs_nil))) (gs_T (gs_cons gs_N (gs_cons gs_N gs_nil)))
  (sSs_one (sS_dPut (ps_dput (hu_of hr) (pv 1) (sE_nm (pv 3)) (sE_bin op_addA opS_add (sE_dGet2 (pe_dget2 (hu_of hr) (pv 1) (sE_nm (pv 3)) sE_int ⟨rfl, rfl, rfl, rfl⟩)) (sE_nm (pv 4))) rfl))))))
  (sSs_cons (asgO_of (ps_set (i := 5) sc_round_product.nd rfl (by first | exact Or.inl rfl | exact Or.inr rfl) (sO_bin op_cat opO_cat (sE_frz (sO_lst (sA_cons sE_int sA_nil))) (sE_bin op_mulA opS_mul (sE_frz (sO_lst (sA_cons sE_int sA_nil))) (sE_cb (pe_callB (cr_sum rfl) (by rfl) q.n_sum (by decide +kernel) (sA_cons (sE_frz (sO_lc rfl sc_round_product.nd (sI_seq q.hK (sE_nm (pv 0))) (blkOk_by (own := [("m", 2)]) (N := N_round_product) (sc := defScope s_round_product) (by decide +kernel)) (fun _ _ _ _ _ => (pg_name (i := 2) sc_round_product.nd rfl (by first | exact Or.inl rfl | exact Or.inr rfl))) gs_N (fun _ _ _ _ _ => pts_yes) (fun _ _ _ _ _ => (sE_call (df_round_length q) fn_np (hr.mono (by decide)) (by rfl) takes0 (sA_cons (sE_nm (pv 2)) sA_nil))))) sA_nil)) caS_sum)))) (fun _ _ _ q => q))
  (sSs_cons (sS_forItems (passes_of rfl) rfl (pi_items (pv 1)) (pg_tup rfl (pgs_cons (pg_name (i := 3) sc_round_product.nd rfl (by first | exact Or.inl rfl | exact Or.inr rfl)) (pgs_cons (pg_name (i := 6) sc_round_product.nd rfl (by first | exact Or.inl rfl | exact Or.inr rfl)) pgs_nil))) (gs_T (gs_cons gs_N (gs_cons gs_N gs_nil)))
  (sSs_cons (sS_for (passes_of rfl) rfl (sI_rng1 (pi_range1 (by rfl) q.n_range (sA_cons (sE_nm (pv 6)) sA_nil))) (pg_name (i := 7) sc_round_product.nd rfl (by first | exact Or.inl rfl | exact Or.inr rfl)) gs_N
  (sSs_one (asg_of (ps_set (i := 5) sc_round_product.nd rfl (by first | exact Or.inl rfl | exact Or.inr rfl) (sE_call (df_times_gap q) fn_np (hr.mono (by decide)) (by rfl) takesK (sA_cons (sE_nm (pv 5)) (sA_cons (sE_nm (pv 3)) sA_nil)))) (fun _ _ _ q => q))))
  (sSs_one (sS_for (passes_of rfl) rfl (sI_rng1 (pi_range1 (by rfl) q.n_range (sA_cons (sE_un un_neg unS_neg (sE_nm (pv 6))) sA_nil))) (pg_name (i := 7) sc_round_product.nd rfl (by first | exact Or.inl rfl | exact Or.inr rfl)) gs_N
  (sSs_one (asg_of (ps_set (i := 5) sc_round_product.nd rfl (by first | exact Or.inl rfl | exact Or.inr rfl) (sE_call (df_over_gap q) fn_np (hr.mono (by decide)) (by rfl) takesK (sA_cons (sE_nm (pv 5)) (sA_cons (sE_nm (pv 3)) sA_nil)))) (fun _ _ _ q => q)))))))
  (sSs_one (sS_retNm (pv 5)))))))
theorem df_round_product (q : Fx K mg T) : Df P w K mg base T "round_product" 3 (["indexes"] : List Str) m_round_product := by
  obtain ⟨f, fd, h1, h2⟩ := q.r_round_product
  exact ⟨f, fd, h1, h2.kp, ok_round_product q h2, h2.binds (ps := (["indexes"] : List Str)) (fun _ _ _ _ _ _ us hl => match us, hl with | [_], _ => rfl)⟩
theorem sc_round_tops : FnScope N_round_tops (["m"] : List Str) (defScope s_round_tops) := ⟨rfl, rfl, rfl, by decide +kernel, rfl, by decide +kernel, by decide +kernel⟩
theorem ok_round_tops (q : Fx K mg T) {f : Addr} {fd : FuncData} (F : Fun K "round_tops" "round_tops" s_round_tops f fd) : FnOk P w K mg base (L2.CX P w) 4 f fd (["m"] : List Str) (spM T 1 m_round_tops) :=
  fn_ok F sc_round_tops rfl (by decide) fun cdv A outer s H E hr => (sSs_cons (sS_if (sT_cmp (op_eqD hr.units) opS_eq (sE_nm (pv 0)) sE_int (nomark _))
  (sSs_one (sS_retO (sO_lst (sA_cons (sE_un un_neg unS_neg sE_int) (sA_cons sE_int sA_nil)))))
  sSs_nil)
  (sSs_cons (asg_of (ps_set (i := 1) sc_round_tops.nd rfl (by first | exact Or.inl rfl | exact Or.inr rfl) sE_int) (fun _ _ _ q => q))
  (sSs_cons (sS_for (passes_of rfl) rfl (sI_seq q.hK (sE_call (df_prime_factors q) fn_np (hr.mono (by decide)) (by rfl) takesK (sA_cons (sE_nm (pv 0)) sA_nil))) (pg_name (i := 2) sc_round_tops.nd rfl (by first | exact Or.inl rfl | exact Or.inr rfl)) gs_N
  (sSs_one (asg_of (ps_set (i := 1) sc_round_tops.nd rfl (by first | exact Or.inl rfl | exact Or.inr rfl) (sE_bin op_mulA opS_mul (sE_nm (pv 1)) (sE_nm (pv 2)))) (fun _ _ _ q => q))))
  (sSs_one (sS_ret (sE_call (df_tops_spread q) fn_np (hr.mono (by decide)) (by rfl) takesK (sA_cons (sE_call (df_round_product q) fn_np (hr.mono (by decide)) (by rfl) takesK (sA_cons (sE_frz (sO_lst (sA_cons (sE_nm (pv 1)) sA_nil))) sA_nil)) (sA_cons (sE_bin op_divA opS_div (sE_nm (pv 0)) (sE_nm (pv 1))) sA_nil))))))))
theorem df_round_tops (q : Fx K mg T) : Df P w K mg base T "round_tops" 4 (["m"] : List Str) m_round_tops := by
  obtain ⟨f, fd, h1, h2⟩ := q.r_round_tops
  exact ⟨f, fd, h1, h2.kp, ok_round_tops q h2, h2.binds (ps := (["m"] : List Str)) (fun _ _ _ _ _ _ us hl => match us, hl with | [_], _ => rfl)⟩
theorem sc_round_factor : FnScope N_round_factor (["m"] : List Str) (defScope s_round_factor) := ⟨rfl, rfl, rfl, by decide +kernel, rfl, by decide +kernel, by decide +kernel⟩
theorem ok_round_factor (q : Fx K mg T) {f : Addr} {fd : FuncData} (F : Fun K "round_factor" "round_factor" s_round_factor f fd) : FnOk P w K mg base (L2.CX P w) 5 f fd (["m"] : List Str) (spM T 1 m_round_factor) :=
  fn_ok F sc_round_factor rfl (by decide) fun cdv A outer s H E hr => (sSs_one (sS_ret (sE_call (df_ratios q) fn_np (hr.mono (by decide)) (by rfl) takesK (sA_cons (sE_call (df_round_tops q) fn_np (hr.mono (by decide)) (by rfl) takesK (sA_cons (sE_nm (pv 0)) sA_nil)) (sA_cons sE_int sA_nil)))))
theorem df_round_factor (q : Fx K mg T) : Df P w K mg base T "round_factor" 5 (["m"] : List Str) m_round_factor := by
  obtain ⟨f, fd, h1, h2⟩ := q.r_round_factor
  exact ⟨f, fd, h1, h2.kp, ok_round_factor q h2, h2.binds (ps := (["m"] : List Str)) (fun _ _ _ _ _ _ us hl => match us, hl with | [_], _ => rfl)⟩
theorem dk_round_factor (q : Fx K mg T) : ∃ (f : Addr) (fd : FuncData), mg "round_factor" = some (.ref f) ∧ PySem.W.keepIn K (.ref f) = true ∧ FnOk P w K mg base (L2.CX P w) 5 f fd (["m"] : List Str) (spM T 1 m_round_factor) ∧ KBn K fd (["m"] : List Str) 0 (["m"] : List Str) (fun _ ws => ws) (fun _ zs => zs) := by
  obtain ⟨f, fd, h1, h2⟩ := q.r_round_factor
  refine ⟨f, fd, h1, h2.kp, ok_round_factor q h2, ?_⟩
  obtain ⟨oc, od, kV, doc, pm, an, cdv, ct, osl, rfl, lk, hcd⟩ := h2.ex
  exact ⟨fun s us ws _ hl hw => .of_eq (match us, ws, hl, hw with | [], [_], _, _ => rfl), fun _ r => r⟩
theorem sc__law_is_int : FnScope N__law_is_int (["thing"] : List Str) (defScope s__law_is_int) := ⟨rfl, rfl, rfl, by decide +kernel, rfl, by decide +kernel, by decide +kernel⟩
theorem ok__law_is_int (q : Fx K mg T) {f : Addr} {fd : FuncData} (F : Fun K "_law_is_int" "_law_is_int" s__law_is_int f fd) : FnOk P w K mg base (L2.CX P w) 1 f fd (["thing"] : List Str) (spM T 1 m__law_is_int) :=
  fn_ok F sc__law_is_int rfl (by decide) fun cdv A outer s H E hr => (sSs_one (sS_ret (sE_and (sE_isTy (t := .int) q.hK q.al (by rfl) q.n_isinstance (sE_nm (pv 0)) (pe_bltn (by rfl) q.n_int (by decide +kernel) rfl)) (sE_one (sE_not (sE_isTy (t := .bool) q.hK q.al (by rfl) q.n_isinstance (sE_nm (pv 0)) (pe_bltn (by rfl) q.n_bool (by decide +kernel) rfl)))))))
theorem df__law_is_int (q : Fx K mg T) : Df P w K mg base T "_law_is_int" 1 (["thing"] : List Str) m__law_is_int := by
  obtain ⟨f, fd, h1, h2⟩ := q.r__law_is_int
  exact ⟨f, fd, h1, h2.kp, ok__law_is_int q h2, h2.binds (ps := (["thing"] : List Str)) (fun _ _ _ _ _ _ us hl => match us, hl with | [_], _ => rfl)⟩
theorem sc__law_lowest : FnScope N__law_lowest (["high", "low"] : List Str) (defScope s__law_lowest) := ⟨rfl, rfl, rfl, by decide +kernel, rfl, by decide +kernel, by decide +kernel⟩
theorem ok__law_lowest (q : Fx K mg T) {f : Addr} {fd : FuncData} (F : Fun K "_law_lowest" "_law_lowest" s__law_lowest f fd) : FnOk P w K mg base (L2.CX P w) 1 f fd (["high", "low"] : List Str) (spM T 2 m__law_lowest) :=
  fn_ok F sc__law_lowest rfl (by decide) fun cdv A outer s H E hr => (sSs_cons (asg_of (ps_set (i := 2) sc__law_lowest.nd rfl (by first | exact Or.inl rfl | exact Or.inr rfl) (sE_cb (pe_callB call_abs (by rfl) q.n_abs (by decide +kernel) (sA_cons (sE_nm (pv 0)) sA_nil)) caS_abs)) (fun _ _ _ q => q))
  (sSs_cons (asg_of (ps_set (i := 3) sc__law_lowest.nd rfl (by first | exact Or.inl rfl | exact Or.inr rfl) (sE_cb (pe_callB call_abs (by rfl) q.n_abs (by decide +kernel) (sA_cons (sE_nm (pv 1)) sA_nil)) caS_abs)) (fun _ _ _ q => q))
  (sSs_cons (sS_for (passes_of rfl) rfl (sI_rng1 (pi_range1 (by rfl) q.n_range (sA_cons (sE_bin op_addA opS_add (sE_bin op_mulA opS_mul sE_int (sE_bits (pe_bits (sE_nm (pv 3))))) sE_int) sA_nil))) (pg_name (i := 4) sc__law_lowest.nd rfl (by first | exact Or.inl rfl | exact Or.inr rfl)) gs_N
  (sSs_cons (sS_if (sT_cmp (op_eqD hr.units) opS_eq (sE_nm (pv 3)) sE_int (nomark _))
  (sSs_one sS_break)
  sSs_nil)
  (sSs_cons (asg_of (ps_set (i := 5) sc__law_lowest.nd rfl (by first | exact Or.inl rfl | exact Or.inr rfl) (sE_bin op_modN opS_mod (sE_cb (pe_callTy call_int1 (by rfl) q.n_int (by decide +kernel) (sA_cons (sE_nm (pv 2)) sA_nil)) caS_int) (sE_nm (pv 3)))) (fun _ _ _ q => q))
  (sSs_cons (asg_of (ps_set (i := 2) sc__law_lowest.nd rfl (by first | exact Or.inl rfl | exact Or.inr rfl) (sE_nm (pv 3))) (fun _ _ _ q => q))
  (sSs_one (asg_of (ps_set (i := 3) sc__law_lowest.nd rfl (by first | exact Or.inl rfl | exact Or.inr rfl) (sE_nm (pv 5))) (fun _ _ _ q => q)))))))
  (sSs_cons (sS_if (sT_cmp op_lt opS_lt (sE_nm (pv 1)) sE_int (nomark _))
  (sSs_one (asg_of (ps_set (i := 2) sc__law_lowest.nd rfl (by first | exact Or.inl rfl | exact Or.inr rfl) (sE_un un_neg unS_neg (sE_nm (pv 2)))) (fun _ _ _ q => q)))
  sSs_nil)
  (sSs_one (sS_ret (sE_tup (sA_cons (sE_bin op_divA opS_div (sE_nm (pv 0)) (sE_nm (pv 2))) (sA_cons (sE_bin op_divA opS_div (sE_nm (pv 1)) (sE_nm (pv 2))) sA_nil)))))))))
theorem df__law_lowest (q : Fx K mg T) : Df P w K mg base T "_law_lowest" 1 (["high", "low"] : List Str) m__law_lowest := by
  obtain ⟨f, fd, h1, h2⟩ := q.r__law_lowest
  exact ⟨f, fd, h1, h2.kp, ok__law_lowest q h2, h2.binds (ps := (["high", "low"] : List Str)) (fun _ _ _ _ _ _ us hl => match us, hl with | [_, _], _ => rfl)⟩
theorem sc__law_pair : FnScope N__law_pair (["told"] : List Str) (defScope s__law_pair) := ⟨rfl, rfl, rfl, by decide +kernel, rfl, by decide +kernel, by decide +kernel⟩
theorem ok__law_pair (q : Fx K mg T) {f : Addr} {fd : FuncData} (F : Fun K "_law_pair" "_law_pair" s__law_pair f fd) : FnOk P w K mg base (L2.CX P w) 2 f fd (["told"] : List Str) (spM T 1 m__law_pair) :=
  fn_ok F sc__law_pair rfl (by decide) fun cdv A outer s H E hr => (sSs_cons (sS_if (sT_not (sT_tru (sE_isC (c := 0) q.hK q.al q.kc_Ratio (by rfl) q.n_isinstance (sE_nm (pv 0)) (pe_glob (by rfl) q.g_Ratio rfl))))
  (sSs_one (sS_ret sE_non))
  sSs_nil)
  (sSs_cons (asg_of (ps_set (i := 1) sc__law_pair.nd rfl (by first | exact Or.inl rfl | exact Or.inr rfl) (sE_fld q.fd_top (sE_nm (pv 0)) (by rfl))) (fun _ _ _ q => q))
  (sSs_cons (asg_of (ps_set (i := 2) sc__law_pair.nd rfl (by first | exact Or.inl rfl | exact Or.inr rfl) (sE_fld q.fd_bottom (sE_nm (pv 0)) (by rfl))) (fun _ _ _ q => q))
  (sSs_cons (sS_if (sT_bo (sT_or (sT_not (sT_tru (sE_call (df__law_is_int q) fn_np (hr.mono (by decide)) (by rfl) takesK (sA_cons (sE_nm (pv 1)) sA_nil)))) (sT_or (sT_not (sT_tru (sE_call (df__law_is_int q) fn_np (hr.mono (by decide)) (by rfl) takesK (sA_cons (sE_nm (pv 2)) sA_nil)))) (sT_or1 (sT_cmp op_lt opS_lt (sE_nm (pv 2)) sE_int (nomark _))))))
  (sSs_one (sS_ret sE_non))
  sSs_nil)
  (sSs_cons (sS_if (sT_cmp (op_neD hr.units) opS_ne (sE_call (df__law_lowest q) fn_np (hr.mono (by decide)) (by rfl) takesK (sA_cons (sE_nm (pv 1)) (sA_cons (sE_nm (pv 2)) sA_nil))) (sE_tup (sA_cons (sE_nm (pv 1)) (sA_cons (sE_nm (pv 2)) sA_nil))) (nomark _))
  (sSs_one (sS_ret sE_non))
  sSs_nil)
  (sSs_one (sS_ret (sE_tup (sA_cons (sE_nm (pv 1)) (sA_cons (sE_nm (pv 2)) sA_nil))))))))))
theorem df__law_pair (q : Fx K mg T) : Df P w K mg base T "_law_pair" 2 (["told"] : List Str) m__law_pair := by
  obtain ⟨f, fd, h1, h2⟩ := q.r__law_pair
  exact ⟨f, fd, h1, h2.kp, ok__law_pair q h2, h2.binds (ps := (["told"] : List Str)) (fun _ _ _ _ _ _ us hl => match us, hl with | [_], _ => rfl)⟩
theorem sc__law_pairs : FnScope N__law_pairs (["told"] : List Str) (defScope s__law_pairs) := ⟨rfl, rfl, rfl, by decide +kernel, rfl, by decide +kernel, by decide +kernel⟩
theorem ok__law_pairs (q : Fx K mg T) {f : Addr} {fd : FuncData} (F : Fun K "_law_pairs" "_law_pairs" s__law_pairs f fd) : FnOk P w K mg base (L2.CX P w) 3 f fd (["told"] : List Str) (spM T 1 m__law_pairs) :=
  fn_ok F sc__law_pairs rfl (by decide) fun cdv A outer s H E hr => (sSs_cons (sS_if (sT_not (sT_tru (sE_isTy (t := .tuple) q.hK q.al (by rfl) q.n_isinstance (sE_nm (pv 0)) (pe_bltn (by rfl) q.n_tuple (by decide +kernel) rfl))))
  (sSs_one (sS_ret sE_non))
  sSs_nil)
  (sSs_cons (setLc rfl sc__law_pairs.nd rfl rfl (sw_true rfl rfl rfl (by decide +kernel)) (sI_seq q.hK (sE_nm (pv 0))) (blkOk_by (own := [("one", 2)]) (N := N__law_pairs) (sc := defScope s__law_pairs) (by decide +kernel)) (fun _ _ _ _ _ => (pg_name (i := 2) sc__law_pairs.nd rfl (by first | exact Or.inl rfl | exact Or.inr rfl))) gs_N (fun _ _ _ _ _ => pts_yes) (fun _ _ _ _ _ => (sE_call (df__law_pair q) fn_np (hr.mono (by decide)) (by rfl) takes0 (sA_cons (sE_nm (pv 2)) sA_nil))))
  (sSs_one (sS_ret (sE_if (sT_cmp (op_inD (un65 hr (by decide))) opS_in sE_non (sE_nm (pv 1)) (by rfl)) sE_non (sE_nm (pv 1)))))))
theorem df__law_pairs (q : Fx K mg T) : Df P w K mg base T "_law_pairs" 3 (["told"] : List Str) m__law_pairs := by
  obtain ⟨f, fd, h1, h2⟩ := q.r__law_pairs
  exact ⟨f, fd, h1, h2.kp, ok__law_pairs q h2, h2.binds (ps := (["told"] : List Str)) (fun _ _ _ _ _ _ us hl => match us, hl with | [_], _ => rfl)⟩
theorem sc__law_whole : FnScope N__law_whole (["told"] : List Str) (defScope s__law_whole) := ⟨rfl, rfl, rfl, by decide +kernel, rfl, by decide +kernel, by decide +kernel⟩
theorem ok__law_whole (q : Fx K mg T) {f : Addr} {fd : FuncData} (F : Fun K "_law_whole" "_law_whole" s__law_whole f fd) : FnOk P w K mg base (L2.CX P w) 4 f fd (["told"] : List Str) (spM T 1 m__law_whole) :=
  fn_ok F sc__law_whole rfl (by decide) fun cdv A outer s H E hr => (sSs_cons (asg_of (ps_set (i := 1) sc__law_whole.nd rfl (by first | exact Or.inl rfl | exact Or.inr rfl) (sE_call (df__law_pairs q) fn_np (hr.mono (by decide)) (by rfl) takesK (sA_cons (sE_nm (pv 0)) sA_nil))) (fun _ _ _ q => q))
  (sSs_cons (sS_if (sT_cmp op_isN opS_isN (sE_nm (pv 1)) sE_non (nomark _))
  (sSs_one (sS_ret sE_non))
  sSs_nil)
  (sSs_one (sS_retO (sO_lc rfl sc__law_whole.nd (sI_seq q.hK (sE_nm (pv 1))) (blkOk_by (own := [("x", 2)]) (N := N__law_whole) (sc := defScope s__law_whole) (by decide +kernel)) (fun _ _ _ _ _ => (pg_name (i := 2) sc__law_whole.nd rfl (by first | exact Or.inl rfl | exact Or.inr rfl))) gs_N (fun _ _ _ _ _ => pts_yes) (fun _ _ _ _ _ => (sE_if (sT_cmp (op_eqD hr.units) opS_eq (sE_ixN q.hK (pv 2) sE_int (fun _ _ => rfl)) sE_int (nomark _)) (sE_ixN q.hK (pv 2) sE_int (fun _ _ => rfl)) sE_non)))))))
theorem df__law_whole (q : Fx K mg T) : Df P w K mg base T "_law_whole" 4 (["told"] : List Str) m__law_whole := by
  obtain ⟨f, fd, h1, h2⟩ := q.r__law_whole
  exact ⟨f, fd, h1, h2.kp, ok__law_whole q h2, h2.binds (ps := (["told"] : List Str)) (fun _ _ _ _ _ _ us hl => match us, hl with | [_], _ => rfl)⟩
theorem sc_tops_of_ratios : FnScope N_tops_of_ratios (["numbers"] : List Str) (defScope s_tops_of_ratios) := ⟨rfl, rfl, rfl, by decide +kernel, rfl, by decide +kernel, by decide +kernel⟩
theorem ok_tops_of_ratios (q : Fx K mg T) {f : Addr} {fd : FuncData} (F : Fun K "tops_of_ratios" "tops_of_ratios" s_tops_of_ratios f fd) : FnOk P w K mg base (L2.CX P w) 1 f fd (["numbers"] : List Str) (spM T 1 m_tops_of_ratios) :=
  fn_ok F sc_tops_of_ratios rfl (by decide) fun cdv A outer s H E hr => (sSs_cons (asg_of (ps_set (i := 1) sc_tops_of_ratios.nd rfl (by first | exact Or.inl rfl | exact Or.inr rfl) sE_int) (fun _ _ _ q => q))
  (sSs_cons (sS_for (passes_of rfl) rfl (sI_seq q.hK (sE_nm (pv 0))) (pg_name (i := 2) sc_tops_of_ratios.nd rfl (by first | exact Or.inl rfl | exact Or.inr rfl)) gs_N
  (sSs_one (asg_of (ps_set (i := 1) sc_tops_of_ratios.nd rfl (by first | exact Or.inl rfl | exact Or.inr rfl) (sE_cb (pe_callBfun cr_lcm (by rfl) q.i_lcm (sA_cons (sE_nm (pv 1)) (sA_cons (sE_fld q.fd_bottom (sE_nm (pv 2)) (by rfl)) sA_nil))) caS_lcm)) (fun _ _ _ q => q))))
  (sSs_one (sS_ret (sE_tup (sA_cons (sE_frz (sO_lc rfl sc_tops_of_ratios.nd (sI_seq q.hK (sE_nm (pv 0))) (blkOk_by (own := [("each", 2)]) (N := N_tops_of_ratios) (sc := defScope s_tops_of_ratios) (by decide +kernel)) (fun _ _ _ _ _ => (pg_name (i := 2) sc_tops_of_ratios.nd rfl (by first | exact Or.inl rfl | exact Or.inr rfl))) gs_N (fun _ _ _ _ _ => pts_yes) (fun _ _ _ _ _ => (sE_bin op_mulA opS_mul (sE_fld q.fd_top (sE_nm (pv 2)) (by rfl)) (sE_bin op_divA opS_div (sE_nm (pv 1)) (sE_fld q.fd_bottom (sE_nm (pv 2)) (by rfl))))))) (sA_cons (sE_nm (pv 1)) sA_nil)))))))
theorem df_tops_of_ratios (q : Fx K mg T) : Df P w K mg base T "tops_of_ratios" 1 (["numbers"] : List Str) m_tops_of_ratios := by
  obtain ⟨f, fd, h1, h2⟩ := q.r_tops_of_ratios
  exact ⟨f, fd, h1, h2.kp, ok_tops_of_ratios q h2, h2.binds (ps := (["numbers"] : List Str)) (fun _ _ _ _ _ _ us hl => match us, hl with | [_], _ => rfl)⟩
theorem sc_stripped : FnScope N_stripped (["numbers"] : List Str) (defScope s_stripped) := ⟨rfl, rfl, rfl, by decide +kernel, rfl, by decide +kernel, by decide +kernel⟩
theorem ok_stripped (q : Fx K mg T) {f : Addr} {fd : FuncData} (F : Fun K "stripped" "stripped" s_stripped f fd) : FnOk P w K mg base (L2.CX P w) 1 f fd (["numbers"] : List Str) (spM T 1 m_stripped) :=
  fn_ok F sc_stripped rfl (by decide) fun cdv A outer s H E hr => (sSs_cons (asg_of (ps_set (i := 1) sc_stripped.nd rfl (by first | exact Or.inl rfl | exact Or.inr rfl) (sE_lenN q.hK (pe_callB call_lenA (by rfl) q.n_len (by decide +kernel) (pa_cons (pv 0) pa_nil)))) (fun _ _ _ q => q))
  (sSs_cons (sS_while (passes_of rfl) (sT_bo (sT_and (sT_tru (sE_nm (pv 1))) (sT_and1 (sT_cmp (op_eqD hr.units) opS_eq (sE_fld q.fd_top (sE_ixN q.hK (pv 0) (sE_bin op_sub opS_sub (sE_nm (pv 1)) sE_int) (fun _ _ => rfl)) (by rfl)) sE_int (nomark _)))))
  (sSs_one (sS_aug (ps_aug (i := 1) sc_stripped.nd rfl (by first | exact Or.inl rfl | exact Or.inr rfl) sE_int iop_sub) opS_sub)))
  (sSs_one (sS_ret (sE_cb (pe_callTy call_tuple_of (by rfl) q.n_tuple (by decide +kernel) (sA_cons (sE_sl (sE_nm (pv 0)) sP_no (sP_so (sE_nm (pv 1)))) sA_nil)) caS_tuple)))))
theorem df_stripped (q : Fx K mg T) : Df P w K mg base T "stripped" 1 (["numbers"] : List Str) m_stripped := by
  obtain ⟨f, fd, h1, h2⟩ := q.r_stripped
  exact ⟨f, fd, h1, h2.kp, ok_stripped q h2, h2.binds (ps := (["numbers"] : List Str)) (fun _ _ _ _ _ _ us hl => match us, hl with | [_], _ => rfl)⟩
theorem sc_number : FnScope N_number (["value"] : List Str) (defScope s_number) := ⟨rfl, rfl, rfl, by decide +kernel, rfl, by decide +kernel, by decide +kernel⟩
theorem ok_number (q : Fx K mg T) {f : Addr} {fd : FuncData} (F : Fun K "number" "number" s_number f fd) : FnOk P w K mg base (L2.CX P w) 4 f fd (["value"] : List Str) (spM T 1 m_number) :=
  fn_ok F sc_number rfl (by decide) fun cdv A outer s H E hr => (sSs_cons (sS_if (sT_tru (sE_isC (c := 0) q.hK q.al q.kc_Ratio (by rfl) q.n_isinstance (sE_nm (pv 0)) (pe_glob (by rfl) q.g_Ratio rfl)))
  (sSs_one (sS_retNm (pv 0)))
  sSs_nil)
  (sSs_cons (sS_if (sT_tru (sE_isTy (t := .str) q.hK q.al (by rfl) q.n_isinstance (sE_nm (pv 0)) (pe_bltn (by rfl) q.n_str (by decide +kernel) rfl)))
  (sSs_cons (sS_asg sE_st (pg_tup rfl (pgs_cons (pg_name (i := 1) sc_number.nd rfl (by first | exact Or.inl rfl | exact Or.inr rfl)) (pgs_cons (pg_name (i := 2) sc_number.nd rfl (by first | exact Or.inl rfl | exact Or.inr rfl)) pgs_nil))) (gs_T (gs_cons gs_N (gs_cons gs_N gs_nil))))
  (sSs_one (sS_ret (make_Ratio q (hr.mono (by decide)) (by rfl) takesK (sA_cons (sE_nm (pv 1)) (sA_cons (sE_nm (pv 2)) sA_nil))))))
  sSs_nil)
  (sSs_cons (sS_if (sT_tru (sE_call (df_is_integer q) fn_np (hr.mono (by decide)) (by rfl) takesK (sA_cons (sE_nm (pv 0)) sA_nil)))
  (sSs_one (sS_ret sE_st))
  sSs_nil)
  (sSs_one sS_st))))
theorem df_number (q : Fx K mg T) : Df P w K mg base T "number" 4 (["value"] : List Str) m_number := by
  obtain ⟨f, fd, h1, h2⟩ := q.r_number
  exact ⟨f, fd, h1, h2.kp, ok_number q h2, h2.binds (ps := (["value"] : List Str)) (fun _ _ _ _ _ _ us hl => match us, hl with | [_], _ => rfl)⟩
theorem sc_polynomial : FnScope N_polynomial (["value"] : List Str) (defScope s_polynomial) := ⟨rfl, rfl, rfl, by decide +kernel, rfl, by decide +kernel, by decide +kernel⟩
theorem ok_polynomial (q : Fx K mg T) {f : Addr} {fd : FuncData} (F : Fun K "polynomial" "polynomial" s_polynomial f fd) : FnOk P w K mg base (L2.CX P w) 5 f fd (["value"] : List Str) (spM T 1 m_polynomial) :=
  fn_ok F sc_polynomial rfl (by decide) fun cdv A outer s H E hr => (sSs_cons (sS_if (sT_tru (sE_isTy (t := .str) q.hK q.al (by rfl) q.n_isinstance (sE_nm (pv 0)) (pe_bltn (by rfl) q.n_str (by decide +kernel) rfl)))
  (sSs_one (sS_ret (sE_call (df_stripped q) fn_np (hr.mono (by decide)) (by rfl) takesK (sA_cons (sE_frz (sO_lc rfl sc_polynomial.nd (sI_seq q.hK sE_st) (blkOk_by (own := [("top", 1), ("bottom", 2)]) (N := N_polynomial) (sc := defScope s_polynomial) (by decide +kernel)) (fun _ _ _ _ _ => (pg_tup rfl (pgs_cons (pg_name (i := 1) sc_polynomial.nd rfl (by first | exact Or.inl rfl | exact Or.inr rfl)) (pgs_cons (pg_name (i := 2) sc_polynomial.nd rfl (by first | exact Or.inl rfl | exact Or.inr rfl)) pgs_nil)))) (gs_T (gs_cons gs_N (gs_cons gs_N gs_nil))) (fun _ _ _ _ _ => pts_yes) (fun _ _ _ _ _ => (make_Ratio q (hr.mono (by decide)) (by rfl) takes0 (sA_cons (sE_nm (pv 1)) (sA_cons (sE_nm (pv 2)) sA_nil)))))) sA_nil))))
  sSs_nil)
  (sSs_one (sS_ret (sE_call (df_stripped q) fn_np (hr.mono (by decide)) (by rfl) takesK (sA_cons (sE_frz (sO_lc rfl sc_polynomial.nd (sI_seq q.hK (sE_nm (pv 0))) (blkOk_by (own := [("each", 3)]) (N := N_polynomial) (sc := defScope s_polynomial) (by decide +kernel)) (fun _ _ _ _ _ => (pg_name (i := 3) sc_polynomial.nd rfl (by first | exact Or.inl rfl | exact Or.inr rfl))) gs_N (fun _ _ _ _ _ => pts_yes) (fun _ _ _ _ _ => (sE_call (df_number q) fn_np (hr.mono (by decide)) (by rfl) takes0 (sA_cons (sE_nm (pv 3)) sA_nil))))) sA_nil)))))
theorem df_polynomial (q : Fx K mg T) : Df P w K mg base T "polynomial" 5 (["value"] : List Str) m_polynomial := by
  obtain ⟨f, fd, h1, h2⟩ := q.r_polynomial
  exact ⟨f, fd, h1, h2.kp, ok_polynomial q h2, h2.binds (ps := (["value"] : List Str)) (fun _ _ _ _ _ _ us hl => match us, hl with | [_], _ => rfl)⟩
theorem sc_tops_turned : FnScope N_tops_turned (["tops"] : List Str) (defScope s_tops_turned) := ⟨rfl, rfl, rfl, by decide +kernel, rfl, by decide +kernel, by decide +kernel⟩
theorem ok_tops_turned (q : Fx K mg T) {f : Addr} {fd : FuncData} (F : Fun K "tops_turned" "tops_turned" s_tops_turned f fd) : FnOk P w K mg base (L2.CX P w) 1 f fd (["tops"] : List Str) (spM T 1 m_tops_turned) :=
  fn_ok F sc_tops_turned rfl (by decide) fun cdv A outer s H E hr => (sSs_one (sS_retO (sO_lc rfl sc_tops_turned.nd (sI_enum (pi_enum (by rfl) q.n_enumerate (sA_cons (sE_nm (pv 0)) sA_nil))) (blkOk_by (own := [("at", 1), ("top", 2)]) (N := N_tops_turned) (sc := defScope s_tops_turned) (by decide +kernel)) (fun _ _ _ _ _ => (pg_tup rfl (pgs_cons (pg_name (i := 1) sc_tops_turned.nd rfl (by first | exact Or.inl rfl | exact Or.inr rfl)) (pgs_cons (pg_name (i := 2) sc_tops_turned.nd rfl (by first | exact Or.inl rfl | exact Or.inr rfl)) pgs_nil)))) (gs_T (gs_cons gs_N (gs_cons gs_N gs_nil))) (fun _ _ _ _ _ => pts_yes) (fun _ _ _ _ _ => (sE_if (sT_tru (sE_bin op_odd opS_and1 (sE_nm (pv 1)) sE_int)) (sE_un un_neg unS_neg (sE_nm (pv 2))) (sE_nm (pv 2)))))))
theorem df_tops_turned (q : Fx K mg T) : Df P w K mg base T "tops_turned" 1 (["tops"] : List Str) m_tops_turned := by
  obtain ⟨f, fd, h1, h2⟩ := q.r_tops_turned
  exact ⟨f, fd, h1, h2.kp, ok_tops_turned q h2, h2.binds (ps := (["tops"] : List Str)) (fun _ _ _ _ _ _ us hl => match us, hl with | [_], _ => rfl)⟩
theorem sc_turned : FnScope N_turned (["p"] : List Str) (defScope s_turned) := ⟨rfl, rfl, rfl, by decide +kernel, rfl, by decide +kernel, by decide +kernel⟩
theorem ok_turned (q : Fx K mg T) {f : Addr} {fd : FuncData} (F : Fun K "turned" "turned" s_turned f fd) : FnOk P w K mg base (L2.CX P w) 6 f fd (["p"] : List Str) (spM T 1 m_turned) :=
  fn_ok F sc_turned rfl (by decide) fun cdv A outer s H E hr => (sSs_cons (sS_asg (sE_call (df_tops_of_ratios q) fn_np (hr.mono (by decide)) (by rfl) takesK (sA_cons (sE_call (df_polynomial q) fn_np (hr.mono (by decide)) (by rfl) takesK (sA_cons (sE_nm (pv 0)) sA_nil)) sA_nil)) (pg_tup rfl (pgs_cons (pg_name (i := 1) sc_turned.nd rfl (by first | exact Or.inl rfl | exact Or.inr rfl)) (pgs_cons (pg_name (i := 2) sc_turned.nd rfl (by first | exact Or.inl rfl | exact Or.inr rfl)) pgs_nil))) (gs_T (gs_cons gs_N (gs_cons gs_N gs_nil))))
  (sSs_one (sS_ret (sE_call (df_ratios q) fn_np (hr.mono (by decide)) (by rfl) takesK (sA_cons (sE_call (df_tops_turned q) fn_np (hr.mono (by decide)) (by rfl) takesK (sA_cons (sE_nm (pv 1)) sA_nil)) (sA_cons (sE_nm (pv 2)) sA_nil))))))
theorem df_turned (q : Fx K mg T) : Df P w K mg base T "turned" 6 (["p"] : List Str) m_turned := by
  obtain ⟨f, fd, h1, h2⟩ := q.r_turned
  exact ⟨f, fd, h1, h2.kp, ok_turned q h2, h2.binds (ps := (["p"] : List Str)) (fun _ _ _ _ _ _ us hl => match us, hl with | [_], _ => rfl)⟩
theorem sc__law_table : FnScope N__law_table (["size"] : List Str) (defScope s__law_table) := ⟨rfl, rfl, rfl, by decide +kernel, rfl, by decide +kernel, by decide +kernel⟩
theorem ok__law_table (q : Fx K mg T) {f : Addr} {fd : FuncData} (F : Fun K "_law_table" "_law_table" s__law_table f fd) : FnOk P w K mg base (L2.CX P w) 1 f fd (["size"] : List Str) (spM T 1 m__law_table) :=
  fn_ok F sc__law_table rfl (by decide) fun cdv A outer s H E hr => (sSs_cons (asgO_of (ps_set (i := 1) sc__law_table.nd rfl (by first | exact Or.inl rfl | exact Or.inr rfl) (sO_lst (sA_cons (sE_frz (sO_lst (sA_cons (sE_un un_neg unS_neg sE_int) (sA_cons sE_int sA_nil)))) (sA_cons (sE_frz (sO_lst (sA_cons sE_int (sA_cons sE_int sA_nil)))) (sA_cons (sE_frz (sO_lst (sA_cons sE_int (sA_cons sE_int (sA_cons sE_int sA_nil))))) (sA_cons (sE_frz (sO_lst (sA_cons sE_int (sA_cons sE_int (sA_cons sE_int sA_nil))))) (sA_cons (sE_frz (sO_lst (sA_cons sE_int (sA_cons sE_int (sA_cons sE_int (sA_cons sE_int (sA_cons sE_int sA_nil))))))) (sA_cons (sE_frz (sO_lst (sA_cons sE_int (sA_cons (sE_un un_neg unS_neg sE_int) (sA_cons sE_int sA_nil))))) (sA_cons (sE_frz (sO_lst (sA_cons sE_int (sA_cons sE_int (sA_cons sE_int (sA_cons sE_int (sA_cons sE_int (sA_cons sE_int (sA_cons sE_int sA_nil))))))))) (sA_cons (sE_frz (sO_lst (sA_cons sE_int (sA_cons sE_int (sA_cons sE_int (sA_cons sE_int (sA_cons sE_int sA_nil))))))) sA_nil)))))))))) (fun _ _ _ q => q))
  (sSs_cons (asgO_of (ps_set (i := 1) sc__law_table.nd rfl (by first | exact Or.inl rfl | exact Or.inr rfl) (sO_bin op_cat opO_cat (sE_nm (pv 1)) (sE_frz (sO_lst (sA_cons (sE_frz (sO_lst (sA_cons sE_int (sA_cons sE_int (sA_cons sE_int (sA_cons sE_int (sA_cons sE_int (sA_cons sE_int (sA_cons sE_int sA_nil))))))))) (sA_cons (sE_frz (sO_lst (sA_cons sE_int (sA_cons (sE_un un_neg unS_neg sE_int) (sA_cons sE_int (sA_cons (sE_un un_neg unS_neg sE_int) (sA_cons sE_int sA_nil))))))) (sA_cons (sE_frz (sO_lst (sA_cons sE_int (sA_cons sE_int (sA_cons sE_int (sA_cons sE_int (sA_cons sE_int (sA_cons sE_int (sA_cons sE_int (sA_cons sE_int (sA_cons sE_int (sA_cons sE_int (sA_cons sE_int sA_nil))))))))))))) (sA_cons (sE_frz (sO_lst (sA_cons sE_int (sA_cons sE_int (sA_cons (sE_un un_neg unS_neg sE_int) (sA_cons sE_int (sA_cons sE_int sA_nil))))))) sA_nil)))))))) (fun _ _ _ q => q))
  (sSs_one (sS_ret (sE_ixN q.hK (pv 1) (sE_bin op_sub opS_sub (sE_nm (pv 0)) sE_int) (fun _ _ => rfl))))))
theorem df__law_table (q : Fx K mg T) : Df P w K mg base T "_law_table" 1 (["size"] : List Str) m__law_table := by
  obtain ⟨f, fd, h1, h2⟩ := q.r__law_table
  exact ⟨f, fd, h1, h2.kp, ok__law_table q h2, h2.binds (ps := (["size"] : List Str)) (fun _ _ _ _ _ _ us hl => match us, hl with | [_], _ => rfl)⟩
theorem sc__law_holds : FnScope N__law_holds (["size"] : List Str) (defScope s__law_holds) := ⟨rfl, rfl, rfl, by decide +kernel, rfl, by decide +kernel, by decide +kernel⟩
theorem ok__law_holds (q : Fx K mg T) {f : Addr} {fd : FuncData} (F : Fun K "_law_holds" "_law_holds" s__law_holds f fd) : FnOk P w K mg base (L2.CX P w) 7 f fd (["size"] : List Str) (spM T 1 m__law_holds) :=
  fn_ok F sc__law_holds rfl (by decide) fun cdv A outer s H E hr => (sSs_cons (asg_of (ps_set (i := 1) sc__law_holds.nd rfl (by first | exact Or.inl rfl | exact Or.inr rfl) (sE_call (df__law_due q) fn_np (hr.mono (by decide)) (by rfl) takesK (sA_cons (sE_nm (pv 0)) sA_nil))) (fun _ _ _ q => q))
  (sSs_cons (asg_of (ps_set (i := 2) sc__law_holds.nd rfl (by first | exact Or.inl rfl | exact Or.inr rfl) (sE_call (df_round_factor q) fn_np (hr.mono (by decide)) (by rfl) takesK (sA_cons (sE_nm (pv 0)) sA_nil))) (fun _ _ _ q => q))
  (sSs_cons (sS_if (sT_bo (sT_or (sT_cmp (op_neD hr.units) opS_ne (sE_call (df__law_whole q) fn_np (hr.mono (by decide)) (by rfl) takesK (sA_cons (sE_nm (pv 2)) sA_nil)) (sE_nm (pv 1)) (nomark _)) (sT_or1 (sT_cmp (op_neD hr.units) opS_ne (sE_call (df__law_whole q) fn_np (hr.mono (by decide)) (by rfl) takesK (sA_cons (sE_call (df_turned q) fn_np (hr.mono (by decide)) (by rfl) takesK (sA_cons (sE_nm (pv 2)) sA_nil)) sA_nil)) (sE_frz (sO_lc rfl sc__law_holds.nd (sI_rng1 (pi_range1 (by rfl) q.n_range (sA_cons (sE_lenN q.hK (pe_callB call_lenA (by rfl) q.n_len (by decide +kernel) (pa_cons (pv 1) pa_nil))) sA_nil))) (blkOk_by (own := [("k", 3)]) (N := N__law_holds) (sc := defScope s__law_holds) (by decide +kernel)) (fun _ _ _ _ _ => (pg_name (i := 3) sc__law_holds.nd rfl (by first | exact Or.inl rfl | exact Or.inr rfl))) gs_N (fun _ _ _ _ _ => pts_yes) (fun _ _ _ _ _ => (sE_if (sT_cmp (op_eqD hr.units) opS_eq (sE_bin op_modN opS_mod (sE_nm (pv 3)) sE_int) sE_int (nomark _)) (sE_ixN q.hK (pv 1) (sE_nm (pv 3)) (fun _ _ => rfl)) (sE_un un_neg unS_neg (sE_ixN q.hK (pv 1) (sE_nm (pv 3)) (fun _ _ => rfl))))))) (nomark _)))))
  (sSs_one (sS_ret sE_bl))
  sSs_nil)
  (sSs_one (sS_ret (sE_or (sE_cmp op_gt opS_gt (sE_nm (pv 0)) sE_int (nomark _)) (sE_one (sE_cmp (op_eqD hr.units) opS_eq (sE_nm (pv 1)) (sE_call (df__law_table q) fn_np (hr.mono (by decide)) (by rfl) takesK (sA_cons (sE_nm (pv 0)) sA_nil)) (nomark _)))))))))
theorem df__law_holds (q : Fx K mg T) : Df P w K mg base T "_law_holds" 7 (["size"] : List Str) m__law_holds := by
  obtain ⟨f, fd, h1, h2⟩ := q.r__law_holds
  exact ⟨f, fd, h1, h2.kp, ok__law_holds q h2, h2.binds (ps := (["size"] : List Str)) (fun _ _ _ _ _ _ us hl => match us, hl with | [_], _ => rfl)⟩
theorem sc_law : FnScope N_law (["script"] : List Str) (defScope s_law) := ⟨rfl, rfl, rfl, by decide +kernel, rfl, by decide +kernel, by decide +kernel⟩
theorem ok_law (q : Fx K mg T) {f : Addr} {fd : FuncData} (F : Fun K "law" "law" s_law f fd) : FnOk P w K mg base (L2.CX P w) 8 f fd (["script"] : List Str) (spM T 1 m_law) :=
  fn_ok F sc_law rfl (by decide) fun cdv A outer s H E hr => (sSs_cons (asgO_of (ps_set (i := 1) sc_law.nd rfl (by first | exact Or.inl rfl | exact Or.inr rfl) (sO_call (df__law_bag q) fn_np (hr.mono (by decide)) (by rfl) takesK (sA_cons (sE_nm (pv 0)) sA_nil))) (fun _ _ _ q => q))
  (sSs_cons (asg_of (ps_set (i := 2) sc_law.nd rfl (by first | exact Or.inl rfl | exact Or.inr rfl) (sE_cmp (op_eqD hr.units) opS_eq (sE_callQ (df__law_draw q) fnQ_np (hr.mono (by decide)) (by rfl) takesK (pv 1) (sA_cons sE_int sA_nil)) sE_int (nomark _))) (fun _ _ _ q => q))
  (sSs_cons (asg_of (ps_set (i := 3) sc_law.nd rfl (by first | exact Or.inl rfl | exact Or.inr rfl) (sE_bin op_addA opS_add sE_int (sE_callQ (df__law_draw q) fnQ_np (hr.mono (by decide)) (by rfl) takesK (pv 1) (sA_cons sE_int sA_nil)))) (fun _ _ _ q => q))
  (sSs_cons (asg_of (ps_set (i := 4) sc_law.nd rfl (by first | exact Or.inl rfl | exact Or.inr rfl) (sE_if (sT_tru (sE_nm (pv 2))) (sE_bin op_addA opS_add sE_int (sE_callQ (df__law_draw q) fnQ_np (hr.mono (by decide)) (by rfl) takesK (pv 1) (sA_cons sE_int sA_nil))) (sE_bin op_addA opS_add sE_int (sE_callQ (df__law_draw q) fnQ_np (hr.mono (by decide)) (by rfl) takesK (pv 1) (sA_cons sE_int sA_nil))))) (fun _ _ _ q => q))
  (sSs_cons (sS_if (sT_bo (sT_or (sT_not (sT_tru (sE_call (df__law_holds q) fn_np (hr.mono (by decide)) (by rfl) takesK (sA_cons (sE_nm (pv 3)) sA_nil)))) (sT_or (sT_not (sT_tru (sE_call (df__law_holds q) fn_np (hr.mono (by decide)) (by rfl) takesK (sA_cons (sE_nm (pv 4)) sA_nil)))) (sT_or1 (sT_not (sT_tru (sE_call (df__law_holds q) fn_np (hr.mono (by decide)) (by rfl) takesK (sA_cons (sE_bin op_addA opS_add sE_int (sE_callQ (df__law_draw q) fnQ_np (hr.mono (by decide)) (by rfl) takesK (pv 1) (sA_cons sE_int sA_nil))) sA_nil))))))))
  (sSs_one (sS_ret sE_bl))
  sSs_nil)
  (sSs_cons (asgO_of (ps_set (i := 5) sc_law.nd rfl (by first | exact Or.inl rfl | exact Or.inr rfl) (sO_lst (sA_cons sE_int sA_nil))) (fun _ _ _ q => q))
  (sSs_cons (sS_for (passes_of rfl) rfl (sI_rng2 (pi_range2 (by rfl) q.n_range (sA_cons sE_int (sA_cons (sE_bin op_addA opS_add (sE_nm (pv 3)) sE_int) sA_nil)))) (pg_name (i := 6) sc_law.nd rfl (by first | exact Or.inl rfl | exact Or.inr rfl)) gs_N
  (sSs_one (sS_if (sT_cmp (op_eqD hr.units) opS_eq (sE_bin op_modN opS_mod (sE_cb (pe_callTy call_int1 (by rfl) q.n_int (by decide +kernel) (sA_cons (sE_nm (pv 3)) sA_nil)) caS_int) (sE_nm (pv 6))) sE_int (nomark _))
  (sSs_cons (asg_of (ps_set (i := 7) sc_law.nd rfl (by first | exact Or.inl rfl | exact Or.inr rfl) (sE_call (df__law_whole q) fn_np (hr.mono (by decide)) (by rfl) takesK (sA_cons (sE_callK0 (dk_round_factor q) fn_np (hr.mono (by decide)) (by rfl) takesK (sK_cons (sE_nm (pv 6)) sK_nil)) sA_nil))) (fun _ _ _ q => q))
  (sSs_cons (sS_if (sT_bo (sT_or (sT_cmp op_isN opS_isN (sE_nm (pv 7)) sE_non (nomark _)) (sT_or1 (sT_cmp (op_inD (un65 hr (by decide))) opS_in sE_non (sE_nm (pv 7)) (by rfl)))))
  (sSs_one (sS_ret sE_bl))
  sSs_nil)
  (sSs_cons (asgO_of (ps_set (i := 8) sc_law.nd rfl (by first | exact Or.inl rfl | exact Or.inr rfl) (sO_bin op_rep opO_rep (sE_frz (sO_lst (sA_cons sE_int sA_nil))) (sE_bin op_sub opS_sub (sE_bin op_addA opS_add (sE_lenN q.hK (pe_callB call_lenA (by rfl) q.n_len (by decide +kernel) (pa_cons (pv 5) pa_nil))) (sE_lenN q.hK (pe_callB call_lenA (by rfl) q.n_len (by decide +kernel) (pa_cons (pv 7) pa_nil)))) sE_int))) (fun _ _ _ q => q))
  (sSs_cons (sS_for (passes_of rfl) rfl (sI_rng1 (pi_range1 (by rfl) q.n_range (sA_cons (sE_lenN q.hK (pe_callB call_lenA (by rfl) q.n_len (by decide +kernel) (pa_cons (pv 5) pa_nil))) sA_nil))) (pg_name (i := 9) sc_law.nd rfl (by first | exact Or.inl rfl | exact Or.inr rfl)) gs_N
  (sSs_one (sS_for (passes_of rfl) rfl (sI_rng1 (pi_range1 (by rfl) q.n_range (sA_cons (sE_lenN q.hK (pe_callB call_lenA (by rfl) q.n_len (by decide +kernel) (pa_cons (pv 7) pa_nil))) sA_nil))) (pg_name (i := 10) sc_law.nd rfl (by first | exact Or.inl rfl | exact Or.inr rfl)) gs_N
  (sSs_one (sS_setI (pv 8) (sE_bin op_addA opS_add (sE_nm (pv 9)) (sE_nm (pv 10))) (sE_bin op_addA opS_add (sE_ixN q.hK (pv 8) (sE_bin op_addA opS_add (sE_nm (pv 9)) (sE_nm (pv 10))) (fun _ _ => rfl)) (sE_bin op_mulA opS_mul (sE_ixN q.hK (pv 5) (sE_nm (pv 9)) (fun _ _ => rfl)) (sE_ixN q.hK (pv 7) (sE_nm (pv 10)) (fun _ _ => rfl)))) rfl rfl rfl (pg_sub (pv 8) (sE_bin op_addA opS_add (sE_nm (pv 9)) (sE_nm (pv 10))) set_list))))))
  (sSs_one (asg_of (ps_set (i := 5) sc_law.nd rfl (by first | exact Or.inl rfl | exact Or.inr rfl) (sE_nm (pv 8))) (fun _ _ _ q => q)))))))
  sSs_nil)))
  (sSs_one (sS_ret (sE_cmp (op_eqD hr.units) opS_eq (sE_nm (pv 5)) (sE_bin op_addA opS_add (sE_bin op_addA opS_add (sE_frz (sO_lst (sA_cons (sE_un un_neg unS_neg sE_int) sA_nil))) (sE_bin op_mulA opS_mul (sE_frz (sO_lst (sA_cons sE_int sA_nil))) (sE_bin op_sub opS_sub (sE_nm (pv 3)) sE_int))) (sE_frz (sO_lst (sA_cons sE_int sA_nil)))) (nomark _)))))))))))
theorem df_law (q : Fx K mg T) : Df P w K mg base T "law" 8 (["script"] : List Str) m_law := by
  obtain ⟨f, fd, h1, h2⟩ := q.r_law
  exact ⟨f, fd, h1, h2.kp, ok_law q h2, h2.binds (ps := (["script"] : List Str)) (fun _ _ _ _ _ _ us hl => match us, hl with | [_], _ => rfl)⟩
end
end EV
set_option maxRecDepth 100000
set_option maxHeartbeats 4000000
namespace EV
open PySem L2
theorem all_mk {l : PySem.W.OpenLaw} {w : World} {K : PySem.W.Frag} {h : Heap} {mg : Str → Option Value} {fa : Addr} (X : K.In h) (G : h.Ns mainGlobals mg) (hfa : mg "law" = some (.ref fa))
    {Ca0 : Addr}
    {f0 : Addr} {od0 an0 : Option Addr} {sl0 : Array (Option Value)} {oc0 kV0 dc0 pm0 cd0 ct0 : Value}
    {T0 : Addr} {oT0 : Value} {oU0 : Option Addr} {sT0 : Array (Option Value)} {nT0 : Nat} {tk0 : Tok}
    {f1 : Addr} {od1 an1 : Option Addr} {sl1 : Array (Option Value)} {oc1 kV1 dc1 pm1 cd1 ct1 : Value}
    {f2 : Addr} {od2 an2 : Option Addr} {sl2 : Array (Option Value)} {oc2 kV2 dc2 pm2 cd2 ct2 : Value}
    {f3 : Addr} {od3 an3 : Option Addr} {sl3 : Array (Option Value)} {oc3 kV3 dc3 pm3 cd3 ct3 : Value}
    {f4 : Addr} {od4 an4 : Option Addr} {sl4 : Array (Option Value)} {oc4 kV4 dc4 pm4 cd4 ct4 : Value}
    {f5 : Addr} {od5 an5 : Option Addr} {sl5 : Array (Option Value)} {oc5 kV5 dc5 pm5 cd5 ct5 : Value}
    {f6 : Addr} {od6 an6 : Option Addr} {sl6 : Array (Option Value)} {oc6 kV6 dc6 pm6 cd6 ct6 : Value}
    {f7 : Addr} {od7 an7 : Option Addr} {sl7 : Array (Option Value)} {oc7 kV7 dc7 pm7 cd7 ct7 : Value}
    {f8 : Addr} {od8 an8 : Option Addr} {sl8 : Array (Option Value)} {oc8 kV8 dc8 pm8 cd8 ct8 : Value}
    {f9 : Addr} {od9 an9 : Option Addr} {sl9 : Array (Option Value)} {oc9 kV9 dc9 pm9 cd9 ct9 : Value}
    {f10 : Addr} {od10 an10 : Option Addr} {sl10 : Array (Option Value)} {oc10 kV10 dc10 pm10 cd10 ct10 : Value}
    {f11 : Addr} {od11 an11 : Option Addr} {sl11 : Array (Option Value)} {oc11 kV11 dc11 pm11 cd11 ct11 : Value}
    {f12 : Addr} {od12 an12 : Option Addr} {sl12 : Array (Option Value)} {oc12 kV12 dc12 pm12 cd12 ct12 : Value}
    {f13 : Addr} {od13 an13 : Option Addr} {sl13 : Array (Option Value)} {oc13 kV13 dc13 pm13 cd13 ct13 : Value}
    {f14 : Addr} {od14 an14 : Option Addr} {sl14 : Array (Option Value)} {oc14 kV14 dc14 pm14 cd14 ct14 : Value}
    {f15 : Addr} {od15 an15 : Option Addr} {sl15 : Array (Option Value)} {oc15 kV15 dc15 pm15 cd15 ct15 : Value}
    {f16 : Addr} {od16 an16 : Option Addr} {sl16 : Array (Option Value)} {oc16 kV16 dc16 pm16 cd16 ct16 : Value}
    {f17 : Addr} {od17 an17 : Option Addr} {sl17 : Array (Option Value)} {oc17 kV17 dc17 pm17 cd17 ct17 : Value}
    {f18 : Addr} {od18 an18 : Option Addr} {sl18 : Array (Option Value)} {oc18 kV18 dc18 pm18 cd18 ct18 : Value}
    {f19 : Addr} {od19 an19 : Option Addr} {sl19 : Array (Option Value)} {oc19 kV19 dc19 pm19 cd19 ct19 : Value}
    {f20 : Addr} {od20 an20 : Option Addr} {sl20 : Array (Option Value)} {oc20 kV20 dc20 pm20 cd20 ct20 : Value}
    {f21 : Addr} {od21 an21 : Option Addr} {sl21 : Array (Option Value)} {oc21 kV21 dc21 pm21 cd21 ct21 : Value}
    {f22 : Addr} {od22 an22 : Option Addr} {sl22 : Array (Option Value)} {oc22 kV22 dc22 pm22 cd22 ct22 : Value}
    {f23 : Addr} {od23 an23 : Option Addr} {sl23 : Array (Option Value)} {oc23 kV23 dc23 pm23 cd23 ct23 : Value}
    {f24 : Addr} {od24 an24 : Option Addr} {sl24 : Array (Option Value)} {oc24 kV24 dc24 pm24 cd24 ct24 : Value}
    {f25 : Addr} {od25 an25 : Option Addr} {sl25 : Array (Option Value)} {oc25 kV25 dc25 pm25 cd25 ct25 : Value}
    {f26 : Addr} {od26 an26 : Option Addr} {sl26 : Array (Option Value)} {oc26 kV26 dc26 pm26 cd26 ct26 : Value}
    {f27 : Addr} {od27 an27 : Option Addr} {sl27 : Array (Option Value)} {oc27 kV27 dc27 pm27 cd27 ct27 : Value}
    {f28 : Addr} {od28 an28 : Option Addr} {sl28 : Array (Option Value)} {oc28 kV28 dc28 pm28 cd28 ct28 : Value}
    (ghn : PySem.W.specialIn K (.builtin "object.__class__") "__get__" = some (some (.builtin "getset_descriptor.__get__")))
    (ghtk : PySem.W.takesIn K (.builtin "object.__class__") = some true)
    (gC0 : PySem.W.nsIn K mainGlobals "Ratio" = some (some (.ref Ca0)))
    (pg_0 : PySem.W.plainGet K Ca0 Str.empty = true)
    (hd_0 : PySem.W.hasDictIn K Ca0 = true)
    (po_0 : PySem.W.plainOver K Ca0 = true)
    (sa_0 : PySem.W.findIn K (.ref Ca0) "__setattr__" = some (some (.builtin "object.__setattr__")))
    (ha_0 : PySem.W.findIn K (.ref Ca0) "__class__" = some (some (.builtin "object.__class__")))
    (hm_0 : PySem.W.mroIn K Ca0 (.type "object") = some true)
    (cd_0 : PySem.W.isClsIn K Ca0 = true)
    (ty_0 : PySem.W.typeIn K (.ref Ca0) = some (.type "type"))
    (s1_0 : PySem.W.subIn K (.ref Ca0) (.type "int") = some false)
    (s2_0 : PySem.W.subIn K (.ref Ca0) (.type "bool") = some false)
    (s3_0 : PySem.W.subIn K (.ref Ca0) (.type "str") = some false)
    (s4_0 : PySem.W.subIn K (.ref Ca0) (.type "list") = some false)
    (s5_0 : PySem.W.subIn K (.ref Ca0) (.type "tuple") = some false)
    (b1_0 : PySem.W.subIn K (.type "NoneType") (.ref Ca0) = some false)
    (b2_0 : PySem.W.subIn K (.type "bool") (.ref Ca0) = some false)
    (b3_0 : PySem.W.subIn K (.type "int") (.ref Ca0) = some false)
    (b4_0 : PySem.W.subIn K (.type "str") (.ref Ca0) = some false)
    (b5_0 : PySem.W.subIn K (.type "list") (.ref Ca0) = some false)
    (b6_0 : PySem.W.subIn K (.type "tuple") (.ref Ca0) = some false)
    (kp_0 : PySem.W.keepIn K (.ref Ca0) = true)
    (na_0_top : PySem.W.findIn K (.ref Ca0) "top" = some none)
    (na_0_bottom : PySem.W.findIn K (.ref Ca0) "bottom" = some none)
    (z_abs : PySem.W.nsIn K mainGlobals "abs" = some none)
    (z_bool : PySem.W.nsIn K mainGlobals "bool" = some none)
    (z_enumerate : PySem.W.nsIn K mainGlobals "enumerate" = some none)
    (i_gcd : PySem.W.nsIn K mainGlobals "gcd" = some (some (.builtin "math.gcd")))
    (z_int : PySem.W.nsIn K mainGlobals "int" = some none)
    (z_isinstance : PySem.W.nsIn K mainGlobals "isinstance" = some none)
    (i_lcm : PySem.W.nsIn K mainGlobals "lcm" = some (some (.builtin "math.lcm")))
    (z_len : PySem.W.nsIn K mainGlobals "len" = some none)
    (z_list : PySem.W.nsIn K mainGlobals "list" = some none)
    (z_min : PySem.W.nsIn K mainGlobals "min" = some none)
    (z_range : PySem.W.nsIn K mainGlobals "range" = some none)
    (z_str : PySem.W.nsIn K mainGlobals "str" = some none)
    (z_sum : PySem.W.nsIn K mainGlobals "sum" = some none)
    (z_tuple : PySem.W.nsIn K mainGlobals "tuple" = some none)
    (mk0 : PySem.W.makesIn K Ca0 = true)
    (a0 : PySem.W.findIn K (.ref Ca0) "__init__" = some (some (.ref f0)))
    (w0 : PySem.W.isFn K (.ref f0) = true)
    (l0 : K.lookup f0 = some ⟨oc0, od0, .func (PySem.W.fnOf "__init__" "Ratio.__init__" (defArgs s_Ratio_init) (defBody s_Ratio_init) (defScope s_Ratio_init) (.ref T0) kV0 dc0 pm0 an0 cd0 ct0), sl0⟩)
    (c0 : PySem.W.codeIn K cd0 "Ratio.__init__" = true)
    (k0 : PySem.W.keepIn K (.ref f0) = true)
    (t0 : K.lookup T0 = some ⟨oT0, oU0, .seq #[.int 1 tk0] nT0, sT0⟩)
    (a1 : PySem.W.nsIn K mainGlobals "_law_bag" = some (some (.ref f1)))
    (l1 : K.lookup f1 = some ⟨oc1, od1, .func (PySem.W.fnOf "_law_bag" "_law_bag" (defArgs s__law_bag) (defBody s__law_bag) (defScope s__law_bag) .none kV1 dc1 pm1 an1 cd1 ct1), sl1⟩)
    (c1 : PySem.W.codeIn K cd1 "_law_bag" = true)
    (k1 : PySem.W.keepIn K (.ref f1) = true)
    (a2 : PySem.W.nsIn K mainGlobals "_law_draw" = some (some (.ref f2)))
    (l2 : K.lookup f2 = some ⟨oc2, od2, .func (PySem.W.fnOf "_law_draw" "_law_draw" (defArgs s__law_draw) (defBody s__law_draw) (defScope s__law_draw) .none kV2 dc2 pm2 an2 cd2 ct2), sl2⟩)
    (c2 : PySem.W.codeIn K cd2 "_law_draw" = true)
    (k2 : PySem.W.keepIn K (.ref f2) = true)
    (a3 : PySem.W.nsIn K mainGlobals "_law_due" = some (some (.ref f3)))
    (l3 : K.lookup f3 = some ⟨oc3, od3, .func (PySem.W.fnOf "_law_due" "_law_due" (defArgs s__law_due) (defBody s__law_due) (defScope s__law_due) .none kV3 dc3 pm3 an3 cd3 ct3), sl3⟩)
    (c3 : PySem.W.codeIn K cd3 "_law_due" = true)
    (k3 : PySem.W.keepIn K (.ref f3) = true)
    (a4 : PySem.W.nsIn K mainGlobals "is_integer" = some (some (.ref f4)))
    (l4 : K.lookup f4 = some ⟨oc4, od4, .func (PySem.W.fnOf "is_integer" "is_integer" (defArgs s_is_integer) (defBody s_is_integer) (defScope s_is_integer) .none kV4 dc4 pm4 an4 cd4 ct4), sl4⟩)
    (c4 : PySem.W.codeIn K cd4 "is_integer" = true)
    (k4 : PySem.W.keepIn K (.ref f4) = true)
    (a5 : PySem.W.nsIn K mainGlobals "ratios" = some (some (.ref f5)))
    (l5 : K.lookup f5 = some ⟨oc5, od5, .func (PySem.W.fnOf "ratios" "ratios" (defArgs s_ratios) (defBody s_ratios) (defScope s_ratios) .none kV5 dc5 pm5 an5 cd5 ct5), sl5⟩)
    (c5 : PySem.W.codeIn K cd5 "ratios" = true)
    (k5 : PySem.W.keepIn K (.ref f5) = true)
    (a6 : PySem.W.nsIn K mainGlobals "prime_factors" = some (some (.ref f6)))
    (l6 : K.lookup f6 = some ⟨oc6, od6, .func (PySem.W.fnOf "prime_factors" "prime_factors" (defArgs s_prime_factors) (defBody s_prime_factors) (defScope s_prime_factors) .none kV6 dc6 pm6 an6 cd6 ct6), sl6⟩)
    (c6 : PySem.W.codeIn K cd6 "prime_factors" = true)
    (k6 : PySem.W.keepIn K (.ref f6) = true)
    (a7 : PySem.W.nsIn K mainGlobals "tops_spread" = some (some (.ref f7)))
    (l7 : K.lookup f7 = some ⟨oc7, od7, .func (PySem.W.fnOf "tops_spread" "tops_spread" (defArgs s_tops_spread) (defBody s_tops_spread) (defScope s_tops_spread) .none kV7 dc7 pm7 an7 cd7 ct7), sl7⟩)
    (c7 : PySem.W.codeIn K cd7 "tops_spread" = true)
    (k7 : PySem.W.keepIn K (.ref f7) = true)
    (a8 : PySem.W.nsIn K mainGlobals "signed_divisors" = some (some (.ref f8)))
    (l8 : K.lookup f8 = some ⟨oc8, od8, .func (PySem.W.fnOf "signed_divisors" "signed_divisors" (defArgs s_signed_divisors) (defBody s_signed_divisors) (defScope s_signed_divisors) .none kV8 dc8 pm8 an8 cd8 ct8), sl8⟩)
    (c8 : PySem.W.codeIn K cd8 "signed_divisors" = true)
    (k8 : PySem.W.keepIn K (.ref f8) = true)
    (a9 : PySem.W.nsIn K mainGlobals "round_length" = some (some (.ref f9)))
    (l9 : K.lookup f9 = some ⟨oc9, od9, .func (PySem.W.fnOf "round_length" "round_length" (defArgs s_round_length) (defBody s_round_length) (defScope s_round_length) .none kV9 dc9 pm9 an9 cd9 ct9), sl9⟩)
    (c9 : PySem.W.codeIn K cd9 "round_length" = true)
    (k9 : PySem.W.keepIn K (.ref f9) = true)
    (a10 : PySem.W.nsIn K mainGlobals "times_gap" = some (some (.ref f10)))
    (l10 : K.lookup f10 = some ⟨oc10, od10, .func (PySem.W.fnOf "times_gap" "times_gap" (defArgs s_times_gap) (defBody s_times_gap) (defScope s_times_gap) .none kV10 dc10 pm10 an10 cd10 ct10), sl10⟩)
    (c10 : PySem.W.codeIn K cd10 "times_gap" = true)
    (k10 : PySem.W.keepIn K (.ref f10) = true)
    (a11 : PySem.W.nsIn K mainGlobals "over_gap" = some (some (.ref f11)))
    (l11 : K.lookup f11 = some ⟨oc11, od11, .func (PySem.W.fnOf "over_gap" "over_gap" (defArgs s_over_gap) (defBody s_over_gap) (defScope s_over_gap) .none kV11 dc11 pm11 an11 cd11 ct11), sl11⟩)
    (c11 : PySem.W.codeIn K cd11 "over_gap" = true)
    (k11 : PySem.W.keepIn K (.ref f11) = true)
    (a12 : PySem.W.nsIn K mainGlobals "round_product" = some (some (.ref f12)))
    (l12 : K.lookup f12 = some ⟨oc12, od12, .func (PySem.W.fnOf "round_product" "round_product" (defArgs s_round_product) (defBody s_round_product) (defScope s_round_product) .none kV12 dc12 pm12 an12 cd12 ct12), sl12⟩)
    (c12 : PySem.W.codeIn K cd12 "round_product" = true)
    (k12 : PySem.W.keepIn K (.ref f12) = true)
    (a13 : PySem.W.nsIn K mainGlobals "round_tops" = some (some (.ref f13)))
    (l13 : K.lookup f13 = some ⟨oc13, od13, .func (PySem.W.fnOf "round_tops" "round_tops" (defArgs s_round_tops) (defBody s_round_tops) (defScope s_round_tops) .none kV13 dc13 pm13 an13 cd13 ct13), sl13⟩)
    (c13 : PySem.W.codeIn K cd13 "round_tops" = true)
    (k13 : PySem.W.keepIn K (.ref f13) = true)
    (a14 : PySem.W.nsIn K mainGlobals "round_factor" = some (some (.ref f14)))
    (l14 : K.lookup f14 = some ⟨oc14, od14, .func (PySem.W.fnOf "round_factor" "round_factor" (defArgs s_round_factor) (defBody s_round_factor) (defScope s_round_factor) .none kV14 dc14 pm14 an14 cd14 ct14), sl14⟩)
    (c14 : PySem.W.codeIn K cd14 "round_factor" = true)
    (k14 : PySem.W.keepIn K (.ref f14) = true)
    (a15 : PySem.W.nsIn K mainGlobals "_law_is_int" = some (some (.ref f15)))
    (l15 : K.lookup f15 = some ⟨oc15, od15, .func (PySem.W.fnOf "_law_is_int" "_law_is_int" (defArgs s__law_is_int) (defBody s__law_is_int) (defScope s__law_is_int) .none kV15 dc15 pm15 an15 cd15 ct15), sl15⟩)
    (c15 : PySem.W.codeIn K cd15 "_law_is_int" = true)
    (k15 : PySem.W.keepIn K (.ref f15) = true)
    (a16 : PySem.W.nsIn K mainGlobals "_law_lowest" = some (some (.ref f16)))
    (l16 : K.lookup f16 = some ⟨oc16, od16, .func (PySem.W.fnOf "_law_lowest" "_law_lowest" (defArgs s__law_lowest) (defBody s__law_lowest) (defScope s__law_lowest) .none kV16 dc16 pm16 an16 cd16 ct16), sl16⟩)
    (c16 : PySem.W.codeIn K cd16 "_law_lowest" = true)
    (k16 : PySem.W.keepIn K (.ref f16) = true)
    (a17 : PySem.W.nsIn K mainGlobals "_law_pair" = some (some (.ref f17)))
    (l17 : K.lookup f17 = some ⟨oc17, od17, .func (PySem.W.fnOf "_law_pair" "_law_pair" (defArgs s__law_pair) (defBody s__law_pair) (defScope s__law_pair) .none kV17 dc17 pm17 an17 cd17 ct17), sl17⟩)
    (c17 : PySem.W.codeIn K cd17 "_law_pair" = true)
    (k17 : PySem.W.keepIn K (.ref f17) = true)
    (a18 : PySem.W.nsIn K mainGlobals "_law_pairs" = some (some (.ref f18)))
    (l18 : K.lookup f18 = some ⟨oc18, od18, .func (PySem.W.fnOf "_law_pairs" "_law_pairs" (defArgs s__law_pairs) (defBody s__law_pairs) (defScope s__law_pairs) .none kV18 dc18 pm18 an18 cd18 ct18), sl18⟩)
    (c18 : PySem.W.codeIn K cd18 "_law_pairs" = true)
    (k18 : PySem.W.keepIn K (.ref f18) = true)
    (a19 : PySem.W.nsIn K mainGlobals "_law_whole" = some (some (.ref f19)))
    (l19 : K.lookup f19 = some ⟨oc19, od19, .func (PySem.W.fnOf "_law_whole" "_law_whole" (defArgs s__law_whole) (defBody s__law_whole) (defScope s__law_whole) .none kV19 dc19 pm19 an19 cd19 ct19), sl19⟩)
    (c19 : PySem.W.codeIn K cd19 "_law_whole" = true)
    (k19 : PySem.W.keepIn K (.ref f19) = true)
    (a20 : PySem.W.nsIn K mainGlobals "tops_of_ratios" = some (some (.ref f20)))
    (l20 : K.lookup f20 = some ⟨oc20, od20, .func (PySem.W.fnOf "tops_of_ratios" "tops_of_ratios" (defArgs s_tops_of_ratios) (defBody s_tops_of_ratios) (defScope s_tops_of_ratios) .none kV20 dc20 pm20 an20 cd20 ct20), sl20⟩)
    (c20 : PySem.W.codeIn K cd20 "tops_of_ratios" = true)
    (k20 : PySem.W.keepIn K (.ref f20) = true)
    (a21 : PySem.W.nsIn K mainGlobals "stripped" = some (some (.ref f21)))
    (l21 : K.lookup f21 = some ⟨oc21, od21, .func (PySem.W.fnOf "stripped" "stripped" (defArgs s_stripped) (defBody s_stripped) (defScope s_stripped) .none kV21 dc21 pm21 an21 cd21 ct21), sl21⟩)
    (c21 : PySem.W.codeIn K cd21 "stripped" = true)
    (k21 : PySem.W.keepIn K (.ref f21) = true)
    (a22 : PySem.W.nsIn K mainGlobals "number" = some (some (.ref f22)))
    (l22 : K.lookup f22 = some ⟨oc22, od22, .func (PySem.W.fnOf "number" "number" (defArgs s_number) (defBody s_number) (defScope s_number) .none kV22 dc22 pm22 an22 cd22 ct22), sl22⟩)
    (c22 : PySem.W.codeIn K cd22 "number" = true)
    (k22 : PySem.W.keepIn K (.ref f22) = true)
    (a23 : PySem.W.nsIn K mainGlobals "polynomial" = some (some (.ref f23)))
    (l23 : K.lookup f23 = some ⟨oc23, od23, .func (PySem.W.fnOf "polynomial" "polynomial" (defArgs s_polynomial) (defBody s_polynomial) (defScope s_polynomial) .none kV23 dc23 pm23 an23 cd23 ct23), sl23⟩)
    (c23 : PySem.W.codeIn K cd23 "polynomial" = true)
    (k23 : PySem.W.keepIn K (.ref f23) = true)
    (a24 : PySem.W.nsIn K mainGlobals "tops_turned" = some (some (.ref f24)))
    (l24 : K.lookup f24 = some ⟨oc24, od24, .func (PySem.W.fnOf "tops_turned" "tops_turned" (defArgs s_tops_turned) (defBody s_tops_turned) (defScope s_tops_turned) .none kV24 dc24 pm24 an24 cd24 ct24), sl24⟩)
    (c24 : PySem.W.codeIn K cd24 "tops_turned" = true)
    (k24 : PySem.W.keepIn K (.ref f24) = true)
    (a25 : PySem.W.nsIn K mainGlobals "turned" = some (some (.ref f25)))
    (l25 : K.lookup f25 = some ⟨oc25, od25, .func (PySem.W.fnOf "turned" "turned" (defArgs s_turned) (defBody s_turned) (defScope s_turned) .none kV25 dc25 pm25 an25 cd25 ct25), sl25⟩)
    (c25 : PySem.W.codeIn K cd25 "turned" = true)
    (k25 : PySem.W.keepIn K (.ref f25) = true)
    (a26 : PySem.W.nsIn K mainGlobals "_law_table" = some (some (.ref f26)))
    (l26 : K.lookup f26 = some ⟨oc26, od26, .func (PySem.W.fnOf "_law_table" "_law_table" (defArgs s__law_table) (defBody s__law_table) (defScope s__law_table) .none kV26 dc26 pm26 an26 cd26 ct26), sl26⟩)
    (c26 : PySem.W.codeIn K cd26 "_law_table" = true)
    (k26 : PySem.W.keepIn K (.ref f26) = true)
    (a27 : PySem.W.nsIn K mainGlobals "_law_holds" = some (some (.ref f27)))
    (l27 : K.lookup f27 = some ⟨oc27, od27, .func (PySem.W.fnOf "_law_holds" "_law_holds" (defArgs s__law_holds) (defBody s__law_holds) (defScope s__law_holds) .none kV27 dc27 pm27 an27 cd27 ct27), sl27⟩)
    (c27 : PySem.W.codeIn K cd27 "_law_holds" = true)
    (k27 : PySem.W.keepIn K (.ref f27) = true)
    (a28 : PySem.W.nsIn K mainGlobals "law" = some (some (.ref f28)))
    (l28 : K.lookup f28 = some ⟨oc28, od28, .func (PySem.W.fnOf "law" "law" (defArgs s_law) (defBody s_law) (defScope s_law) .none kV28 dc28 pm28 an28 cd28 ct28), sl28⟩)
    (c28 : PySem.W.codeIn K cd28 "law" = true)
    (k28 : PySem.W.keepIn K (.ref f28) = true)
    : ∃ fd : FuncData, (∀ (s : Shared) (v : Value), BindsTo s fd ⟨[v], []⟩ [("script", v)]) ∧ ∀ base : Heap, K.In base → base.Ns mainGlobals mg → FnOk l.prog w K mg base (L2.CX l.prog w) 8 fa fd ["script"] (spL K) := by
  have e := hfa.symm.trans (PySem.W.mg_of X G a28)
  cases e
  have Y0 : C0 K Ca0 := ⟨pg_0, hd_0, po_0, sa_0, ha_0, ghn, ghtk, hm_0, cd_0, ty_0, s1_0, s2_0, s3_0, s4_0, s5_0, b1_0, b2_0, b3_0, b4_0, b5_0, b6_0⟩
  let T : Tb := ⟨K, fun c => Ca0, fun c => if c = 0 then ["top", "bottom"] else [], fun _ => .none, fun _ => []⟩
  have q : Fx K mg T := {
    hK := rfl
    al := fun _ => Y0.isC
    n_abs := PySem.W.mg_none_of X G z_abs
    n_bool := PySem.W.mg_none_of X G z_bool
    n_enumerate := PySem.W.mg_none_of X G z_enumerate
    i_gcd := PySem.W.mg_of X G i_gcd
    n_int := PySem.W.mg_none_of X G z_int
    n_isinstance := PySem.W.mg_none_of X G z_isinstance
    i_lcm := PySem.W.mg_of X G i_lcm
    n_len := PySem.W.mg_none_of X G z_len
    n_list := PySem.W.mg_none_of X G z_list
    n_min := PySem.W.mg_none_of X G z_min
    n_range := PySem.W.mg_none_of X G z_range
    n_str := PySem.W.mg_none_of X G z_str
    n_sum := PySem.W.mg_none_of X G z_sum
    n_tuple := PySem.W.mg_none_of X G z_tuple
    g_Ratio := PySem.W.mg_of X G gC0
    kc_Ratio := C0.kit (T := T) (c := 0) Y0 fun c1 h1 h2 => absurd h1 (by omega)
    nm_Ratio := rfl
    na_Ratio_top := na_0_top
    na_Ratio_bottom := na_0_bottom
    in_Ratio := ⟨f0, _, ⟨mk0, a0, w0, kp_0⟩, funB_one (dv := .int 1) l0 c0 k0 t0 (.cons ⟨_, rfl⟩ .nil) (fun _ _ _ _ _ _ _ us its hl hi => match us, its, hl, hi with | [_, _, _], [_], _, _ => ⟨_, rfl, rfl⟩)⟩
    r__law_bag := ⟨_, _, PySem.W.mg_of X G a1, fun_mk (st := s__law_bag) l1 c1 k1⟩
    r__law_draw := ⟨_, _, PySem.W.mg_of X G a2, fun_mk (st := s__law_draw) l2 c2 k2⟩
    r__law_due := ⟨_, _, PySem.W.mg_of X G a3, fun_mk (st := s__law_due) l3 c3 k3⟩
    r_is_integer := ⟨_, _, PySem.W.mg_of X G a4, fun_mk (st := s_is_integer) l4 c4 k4⟩
    r_ratios := ⟨_, _, PySem.W.mg_of X G a5, fun_mk (st := s_ratios) l5 c5 k5⟩
    r_prime_factors := ⟨_, _, PySem.W.mg_of X G a6, fun_mk (st := s_prime_factors) l6 c6 k6⟩
    r_tops_spread := ⟨_, _, PySem.W.mg_of X G a7, fun_mk (st := s_tops_spread) l7 c7 k7⟩
    r_signed_divisors := ⟨_, _, PySem.W.mg_of X G a8, fun_mk (st := s_signed_divisors) l8 c8 k8⟩
    r_round_length := ⟨_, _, PySem.W.mg_of X G a9, fun_mk (st := s_round_length) l9 c9 k9⟩
    r_times_gap := ⟨_, _, PySem.W.mg_of X G a10, fun_mk (st := s_times_gap) l10 c10 k10⟩
    r_over_gap := ⟨_, _, PySem.W.mg_of X G a11, fun_mk (st := s_over_gap) l11 c11 k11⟩
    r_round_product := ⟨_, _, PySem.W.mg_of X G a12, fun_mk (st := s_round_product) l12 c12 k12⟩
    r_round_tops := ⟨_, _, PySem.W.mg_of X G a13, fun_mk (st := s_round_tops) l13 c13 k13⟩
    r_round_factor := ⟨_, _, PySem.W.mg_of X G a14, fun_mk (st := s_round_factor) l14 c14 k14⟩
    r__law_is_int := ⟨_, _, PySem.W.mg_of X G a15, fun_mk (st := s__law_is_int) l15 c15 k15⟩
    r__law_lowest := ⟨_, _, PySem.W.mg_of X G a16, fun_mk (st := s__law_lowest) l16 c16 k16⟩
    r__law_pair := ⟨_, _, PySem.W.mg_of X G a17, fun_mk (st := s__law_pair) l17 c17 k17⟩
    r__law_pairs := ⟨_, _, PySem.W.mg_of X G a18, fun_mk (st := s__law_pairs) l18 c18 k18⟩
    r__law_whole := ⟨_, _, PySem.W.mg_of X G a19, fun_mk (st := s__law_whole) l19 c19 k19⟩
    r_tops_of_ratios := ⟨_, _, PySem.W.mg_of X G a20, fun_mk (st := s_tops_of_ratios) l20 c20 k20⟩
    r_stripped := ⟨_, _, PySem.W.mg_of X G a21, fun_mk (st := s_stripped) l21 c21 k21⟩
    r_number := ⟨_, _, PySem.W.mg_of X G a22, fun_mk (st := s_number) l22 c22 k22⟩
    r_polynomial := ⟨_, _, PySem.W.mg_of X G a23, fun_mk (st := s_polynomial) l23 c23 k23⟩
    r_tops_turned := ⟨_, _, PySem.W.mg_of X G a24, fun_mk (st := s_tops_turned) l24 c24 k24⟩
    r_turned := ⟨_, _, PySem.W.mg_of X G a25, fun_mk (st := s_turned) l25 c25 k25⟩
    r__law_table := ⟨_, _, PySem.W.mg_of X G a26, fun_mk (st := s__law_table) l26 c26 k26⟩
    r__law_holds := ⟨_, _, PySem.W.mg_of X G a27, fun_mk (st := s__law_holds) l27 c27 k27⟩
    r_law := ⟨_, _, PySem.W.mg_of X G a28, fun_mk (st := s_law) l28 c28 k28⟩
  }
  exact ⟨_, fun s v => .of_eq rfl, fun base _ _ => FnOk.imp (ok_law q (fun_mk (st := s_law) l28 c28 k28)) (spL_of (T := T) rfl law_true)⟩
end EV
open PySem PySem.W PyProof.Rows
set_option maxRecDepth 100000 in
set_option maxHeartbeats 0 in
theorem PySem.Challenge.cw_everystretch_k03_round_factors_holds : PySem.Challenge.rw_everystretch_k03_round_factors.Holds := by
  w_on; o_law; k_head; (case hw => w_witness2)
  k_fill
  refine EV.walkL (l := PySem.Challenge.rw_everystretch_k03_round_factors) (k := 8) rfl rfl ⟨rfl, by decide, by decide⟩ (fun w h Y => PySem.W.kIn_of Y) ?F
  case F =>
    intro w mg fa h KX G hmg
    refine' EV.all_mk KX G hmg ?ghn ?ghtk ?gC0 ?pg_0 ?hd_0 ?po_0 ?sa_0 ?ha_0 ?hm_0 ?cd_0 ?ty_0 ?s1_0 ?s2_0 ?s3_0 ?s4_0 ?s5_0 ?b1_0 ?b2_0 ?b3_0 ?b4_0 ?b5_0 ?b6_0 ?kp_0 ?na_0_top ?na_0_bottom ?z_abs ?z_bool ?z_enumerate ?i_gcd ?z_int ?z_isinstance ?i_lcm ?z_len ?z_list ?z_min ?z_range ?z_str ?z_sum ?z_tuple ?mk0 ?a0 ?w0 ?l0 ?c0 ?k0 ?t0 ?a1 ?l1 ?c1 ?k1 ?a2 ?l2 ?c2 ?k2 ?a3 ?l3 ?c3 ?k3 ?a4 ?l4 ?c4 ?k4 ?a5 ?l5 ?c5 ?k5 ?a6 ?l6 ?c6 ?k6 ?a7 ?l7 ?c7 ?k7 ?a8 ?l8 ?c8 ?k8 ?a9 ?l9 ?c9 ?k9 ?a10 ?l10 ?c10 ?k10 ?a11 ?l11 ?c11 ?k11 ?a12 ?l12 ?c12 ?k12 ?a13 ?l13 ?c13 ?k13 ?a14 ?l14 ?c14 ?k14 ?a15 ?l15 ?c15 ?k15 ?a16 ?l16 ?c16 ?k16 ?a17 ?l17 ?c17 ?k17 ?a18 ?l18 ?c18 ?k18 ?a19 ?l19 ?c19 ?k19 ?a20 ?l20 ?c20 ?k20 ?a21 ?l21 ?c21 ?k21 ?a22 ?l22 ?c22 ?k22 ?a23 ?l23 ?c23 ?k23 ?a24 ?l24 ?c24 ?k24 ?a25 ?l25 ?c25 ?k25 ?a26 ?l26 ?c26 ?k26 ?a27 ?l27 ?c27 ?k27 ?a28 ?l28 ?c28 ?k28
    (case ghn => k_is)
    (case ghtk => k_is)
    (case gC0 => k_is)
    (case pg_0 => k_is)
    (case hd_0 => k_is)
    (case po_0 => k_is)
    (case sa_0 => k_is)
    (case ha_0 => k_is)
    (case hm_0 => k_is)
    (case cd_0 => k_is)
    (case ty_0 => k_is)
    (case s1_0 => k_is)
    (case s2_0 => k_is)
    (case s3_0 => k_is)
    (case s4_0 => k_is)
    (case s5_0 => k_is)
    (case b1_0 => k_is)
    (case b2_0 => k_is)
    (case b3_0 => k_is)
    (case b4_0 => k_is)
    (case b5_0 => k_is)
    (case b6_0 => k_is)
    (case kp_0 => k_is)
    (case na_0_top => k_is)
    (case na_0_bottom => k_is)
    (case z_abs => k_is)
    (case z_bool => k_is)
    (case z_enumerate => k_is)
    (case i_gcd => k_is)
    (case z_int => k_is)
    (case z_isinstance => k_is)
    (case i_lcm => k_is)
    (case z_len => k_is)
    (case z_list => k_is)
    (case z_min => k_is)
    (case z_range => k_is)
    (case z_str => k_is)
    (case z_sum => k_is)
    (case z_tuple => k_is)
    (case mk0 => k_is)
    (case a0 => k_is)
    (case w0 => k_is)
    (case l0 => k_is)
    (case c0 => k_is)
    (case k0 => k_is)
    (case t0 => k_is)
    (case a1 => k_is)
    (case l1 => k_is)
    (case c1 => k_is)
    (case k1 => k_is)
    (case a2 => k_is)
    (case l2 => k_is)
    (case c2 => k_is)
    (case k2 => k_is)
    (case a3 => k_is)
    (case l3 => k_is)
    (case c3 => k_is)
    (case k3 => k_is)
    (case a4 => k_is)
    (case l4 => k_is)
    (case c4 => k_is)
    (case k4 => k_is)
    (case a5 => k_is)
    (case l5 => k_is)
    (case c5 => k_is)
    (case k5 => k_is)
    (case a6 => k_is)
    (case l6 => k_is)
    (case c6 => k_is)
    (case k6 => k_is)
    (case a7 => k_is)
    (case l7 => k_is)
    (case c7 => k_is)
    (case k7 => k_is)
    (case a8 => k_is)
    (case l8 => k_is)
    (case c8 => k_is)
    (case k8 => k_is)
    (case a9 => k_is)
    (case l9 => k_is)
    (case c9 => k_is)
    (case k9 => k_is)
    (case a10 => k_is)
    (case l10 => k_is)
    (case c10 => k_is)
    (case k10 => k_is)
    (case a11 => k_is)
    (case l11 => k_is)
    (case c11 => k_is)
    (case k11 => k_is)
    (case a12 => k_is)
    (case l12 => k_is)
    (case c12 => k_is)
    (case k12 => k_is)
    (case a13 => k_is)
    (case l13 => k_is)
    (case c13 => k_is)
    (case k13 => k_is)
    (case a14 => k_is)
    (case l14 => k_is)
    (case c14 => k_is)
    (case k14 => k_is)
    (case a15 => k_is)
    (case l15 => k_is)
    (case c15 => k_is)
    (case k15 => k_is)
    (case a16 => k_is)
    (case l16 => k_is)
    (case c16 => k_is)
    (case k16 => k_is)
    (case a17 => k_is)
    (case l17 => k_is)
    (case c17 => k_is)
    (case k17 => k_is)
    (case a18 => k_is)
    (case l18 => k_is)
    (case c18 => k_is)
    (case k18 => k_is)
    (case a19 => k_is)
    (case l19 => k_is)
    (case c19 => k_is)
    (case k19 => k_is)
    (case a20 => k_is)
    (case l20 => k_is)
    (case c20 => k_is)
    (case k20 => k_is)
    (case a21 => k_is)
    (case l21 => k_is)
    (case c21 => k_is)
    (case k21 => k_is)
    (case a22 => k_is)
    (case l22 => k_is)
    (case c22 => k_is)
    (case k22 => k_is)
    (case a23 => k_is)
    (case l23 => k_is)
    (case c23 => k_is)
    (case k23 => k_is)
    (case a24 => k_is)
    (case l24 => k_is)
    (case c24 => k_is)
    (case k24 => k_is)
    (case a25 => k_is)
    (case l25 => k_is)
    (case c25 => k_is)
    (case k25 => k_is)
    (case a26 => k_is)
    (case l26 => k_is)
    (case c26 => k_is)
    (case k26 => k_is)
    (case a27 => k_is)
    (case l27 => k_is)
    (case c27 => k_is)
    (case k27 => k_is)
    (case a28 => k_is)
    (case l28 => k_is)
    (case c28 => k_is)
    (case k28 => k_is)
