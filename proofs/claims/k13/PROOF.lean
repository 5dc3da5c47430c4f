import PyProof.Rows.All
import Wide.All
import OpenK.AllK
import Wide.FinOn
import HandS.ForMost
import HandS.Exc
import HandS.More
import HandS.TupAny
import HandS.TupMul
import HandS.Wide
import HandS.Deep
import HandS.NoneIn
import PyProof.NeKinds
import HandS.RaiseMore
import HandS.IsInst
import HandS.Defaults
import KE.KStateDown
import Lean
import HandS.Head0
import HandS.Head1
import HandS.Head2
import HandS.HeadEnd
import HandS.HeadHook1
import HandS.HeadHook2
import HandS.HeadHook3
import HandS.HeadHook4
import PySem.Challenge.RW_citehall_k13_written_and_read
set_option Elab.async false
set_option linter.all false
set_option autoImplicit false
set_option maxRecDepth 100000
set_option maxHeartbeats 4000000
/-! Mini: a small deterministic language into which the program and the laws are read; its values are by value but for
objects that are shared (index into a heap). -/
namespace Mi

abbrev Tx := List Nat

inductive W where
  | non | bl (b : Bool) | int (i : Int) | str (s : Tx) | tup (xs : List W) | ref (a : Nat)
  deriving Inhabited

mutual
def W.beq : W → W → Bool
  | .non, .non => true
  | .bl a, .bl b => a == b
  | .int a, .int b => a == b
  | .str a, .str b => a == b
  | .tup a, .tup b => W.beqs a b
  | .ref a, .ref b => a == b
  | _, _ => false
def W.beqs : List W → List W → Bool
  | [], [] => true
  | a :: as, b :: bs => W.beq a b && W.beqs as bs
  | _, _ => false
end
mutual
theorem W.beq_iff : ∀ (a b : W), W.beq a b = true ↔ a = b
  | .non, b => by cases b <;> simp [W.beq]
  | .bl a, b => by cases b <;> simp [W.beq]
  | .int a, b => by cases b <;> simp [W.beq]
  | .str a, b => by cases b <;> simp [W.beq]
  | .tup a, b => by
    cases b with
    | tup b => simp [W.beq, W.beqs_iff a b]
    | _ => simp [W.beq]
  | .ref a, b => by cases b <;> simp [W.beq]
theorem W.beqs_iff : ∀ (a b : List W), W.beqs a b = true ↔ a = b
  | [], b => by cases b <;> simp [W.beqs]
  | a :: as, b => by
    cases b with
    | nil => simp [W.beqs]
    | cons b bs => simp [W.beqs, W.beq_iff a b, W.beqs_iff as bs]
end
instance : DecidableEq W := fun a b => decidable_of_iff _ (W.beq_iff a b)

inductive O where
  | lst (xs : List W) | dct (kvs : List (W × W))
  deriving DecidableEq, Inhabited
/-- own: no one else has it; brw: looked at, of that slot, which owns it; frz: looked at, never changed; top: of the module's -/
inductive Kd where | own | brw (i : Nat) | frz | top
  deriving DecidableEq, Inhabited
inductive R where
  | val (w : W) | obj (k : Kd) (o : O) | exv (c : Nat) (w : W)
  deriving DecidableEq, Inhabited
inductive GO where
  | obj (o : O) | frz (o : O) | ins (c : Nat) (fs : List (Nat × W))
  deriving DecidableEq, Inhabited

abbrev Sl := List (Option R)
abbrev Gp := List GO

/-! ### syntax -/
inductive Bop where | add | sub | mul | mod | fdiv | pow
  deriving DecidableEq
inductive Cop where | eq | ne | lt | le | gt | ge | isn | notn | inn | nin
  deriving DecidableEq
/-- kinds that isinstance asks for -/
inductive Ty where | int | bool | str | tuple | list | exc (c : Nat)
  deriving DecidableEq
inductive Fb where | len | str | int | list | tuple | dict | max | min | sorted | sortedset | lrange
  deriving DecidableEq
/-- methods by name -/
inductive Mb where
  | append | extend | insert | remove | pop | index | count | get | setdefault | update | split | join | clear | reverse
  deriving DecidableEq
inductive Ik where | of | rng | enm | zip
  deriving DecidableEq

inductive E where
  | c (w : W)
  | v (i : Nat)
  | g (k : Nat)
  | bin (op : Bop) (a b : E)
  | neg (a : E)
  | cmp (op : Cop) (a b : E)
  | chain (o1 o2 : Cop) (a b c : E)
  | and (a b : E) | or (a b : E) | not (a : E)
  | ite (c a b : E)
  | lst (es : List E) | tup (es : List E) | dct (kvs : List E)
  | idx (a i : E)
  | slc (a : E) (lo hi : Option E)
  | rev (a : E)
  | fld (a : E) (f : Nat)
  | call (f : Nat) (es : List E)
  | meth (a : E) (m : Nat) (es : List E)
  | new (c : Nat) (es : List E)
  | isi (a : E) (ts : List Ty)
  | fn (b : Fb) (es : List E)
  | mt (a : E) (m : Mb) (es : List E)
  | lc (own : List Nat) (tg : List Nat) (ik : Ik) (src : List E) (cond : Option E) (elt : E)
  | bad

inductive T where
  | v (i : Nat) | vb (i : Nat) | sub (a i : E) | fld (a : E) (f : Nat)

inductive S where
  | asg (t : T) (e : E)
  | asgT (ts : List T) (e : E)
  | asgs (ts : List T) (es : List E)
  | ex (e : E)
  | mut (i : Nat) (m : Mb) (es : List E)
  | ret (e : E) | retT (es : List E)
  | if_ (c : E) (a b : List S)
  | for_ (tg : List Nat) (ik : Ik) (src : List E) (body : List S)
  | while_ (c : E) (body : List S)
  | raise (c : Nat) (e : Option E)
  | try_ (body : List S) (c : Nat) (nm : Option Nat) (h : List S)
  | pass | bad

/-! ### outcomes -/
inductive EO (α : Type) where
  | ok (a : α) (G : Gp) | exc (c : Nat) (w : W) (G : Gp) | bad
inductive SO where
  | nx (σ : Sl) (G : Gp) | bk (σ : Sl) (G : Gp) | ct (σ : Sl) (G : Gp) | ret (r : R) (G : Gp)
  | exc (c : Nat) (w : W) (σ : Sl) (G : Gp) | bad

def EO.bind {α β : Type} (x : EO α) (f : α → Gp → EO β) : EO β :=
  match x with
  | .ok a G => f a G
  | .exc c w G => .exc c w G
  | .bad => .bad
/-- where no error may leave -/
def EO.calm {α : Type} (x : EO α) : EO α := match x with
  | .ok a G => .ok a G
  | _ => .bad
def opt {α : Type} (x : Option α) (G : Gp) : EO α := match x with
  | some a => .ok a G
  | none => .bad

def sizeL : Nat := 16777216

/-! ### values -/
def content (G : Gp) : R → Option O
  | .obj _ o => some o
  | .val (.ref a) => match G[a]? with
    | some (.obj o) => some o
    | some (.frz o) => some o
    | _ => none
  | _ => none
/-- .. that is not locked -/
def contentU (G : Gp) : R → Option O
  | .obj _ o => some o
  | .val (.ref a) => match G[a]? with
    | some (.obj o) => some o
    | _ => none
  | _ => none
/-- a value that may be laid into another -/
def toW (r : R) (G : Gp) : EO W := match r with
  | .val w => .ok w G
  | .obj .own o => .ok (.ref G.length) (G ++ [.obj o])
  | _ => .bad
/-- the items that a walk goes through -/
def items (G : Gp) (r : R) : Option (List W) := match r with
  | .val (.tup xs) => some xs
  | .val (.str s) => some (s.map fun c => .str [c])
  | _ => match content G r with
    | some (.lst xs) => some xs
    | some (.dct kvs) => some (kvs.map (·.1))
    | none => none
/-- the items of a list or tuple -/
def seqOf (G : Gp) (r : R) : Option (List W) := match r with
  | .val (.tup xs) => some xs
  | _ => match content G r with
    | some (.lst xs) => some xs
    | _ => none

mutual
/-- == is equality of data here -/
def cmpOk : W → W → Bool
  | .bl _, .int _ => false
  | .int _, .bl _ => false
  | .tup xs, .tup ys => cmpOks xs ys
  | _, _ => true
def cmpOks : List W → List W → Bool
  | x :: xs, y :: ys => cmpOk x y && cmpOks xs ys
  | _, _ => true
end
/-- no object within, not too deep -/
def flatN : Nat → W → Bool
  | _, .ref _ => false
  | 0, .tup _ => false
  | n + 1, .tup xs => xs.all (flatN n)
  | _, _ => true
def flatW (w : W) : Bool := flatN 20 w
def ws (xs : List W) : Bool := xs.all flatW
/-- no data within -/
def plainW : W → Bool
  | .ref _ => false
  | .tup _ => false
  | _ => true

/-- == of two lists -/
def eqL (xs ys : List W) : Option Bool :=
  if xs.isEmpty || ys.isEmpty then some (xs.isEmpty && ys.isEmpty)
  else if cmpOks xs ys && ws xs && ws ys then some (decide (xs = ys)) else none
/-- x == y -/
def eqR (G : Gp) (x y : R) : Option Bool := match content G x, content G y with
  | some (.lst xs), some (.lst ys) => eqL xs ys
  | some (.lst xs), none => match y with
    | .val b => if ws xs && flatW b then some false else none
    | _ => none
  | none, some (.lst ys) => match x with
    | .val a => if ws ys && flatW a then some false else none
    | _ => none
  | none, none => match x, y with
    | .val a, .val b => if cmpOk a b && flatW a && flatW b then some (decide (a = b)) else none
    | _, _ => none
  | _, _ => none

/-- y in xs -/
def memW (y : W) (xs : List W) : Option Bool := if flatW y && ws xs && xs.all (fun x => cmpOk x y) then some (decide (y ∈ xs)) else none
def memP (y : W) (xs : List W) : Option Bool := if plainW y && xs.all plainW && xs.all (fun x => cmpOk x y) then some (decide (y ∈ xs)) else none

def keyOk : W → Bool
  | .int _ => true
  | .str _ => true
  | _ => false
def dget (kvs : List (W × W)) (k : W) : Option W := kvs.lookup k
def dput (kvs : List (W × W)) (k v : W) : List (W × W) :=
  if kvs.any (fun p => decide (p.1 = k)) then kvs.map (fun p => if p.1 = k then (p.1, v) else p) else kvs ++ [(k, v)]

def letters : Tx := [97, 98, 99, 100, 101, 102, 103, 104, 105, 106, 107, 108, 109, 110, 111, 112, 113, 114, 115, 116, 117, 118, 119, 120, 121, 122]
/-- x within y: one sign, or none in the letters -/
def subT (x y : Tx) : Option Bool := match x with
  | [c] => some (decide (c ∈ y))
  | [] => if y = letters then some true else none
  | _ => none
/-- of a dict of the top texts alone are asked -/
def keyFor (y : R) (w : W) : Bool := match y, w with
  | .obj .top _, .str _ => true
  | .obj .top _, _ => false
  | _, _ => true
def cmpR (op : Cop) (G : Gp) (x y : R) : Option Bool := match op with
  | .eq => eqR G x y
  | .ne => (eqR G x y).map not
  | .isn => if y = .val .non then some (decide (x = .val .non)) else none
  | .notn => if y = .val .non then some (!decide (x = .val .non)) else none
  | .lt => match x, y with | .val (.int i), .val (.int j) => some (decide (i < j)) | _, _ => none
  | .le => match x, y with | .val (.int i), .val (.int j) => some (decide (i ≤ j)) | _, _ => none
  | .gt => match x, y with | .val (.int i), .val (.int j) => some (decide (j < i)) | _, _ => none
  | .ge => match x, y with | .val (.int i), .val (.int j) => some (decide (j ≤ i)) | _, _ => none
  | .inn => inR G x y
  | .nin => (inR G x y).map not
where
  inR (G : Gp) (x y : R) : Option Bool := match x, y with
    | .val (.str a), .val (.str b) => subT a b
    | .val w, .val (.tup xs) => memP w xs
    | .val w, _ => match content G y with
      | some (.lst xs) => memW w xs
      | some (.dct kvs) => if keyOk w && keyFor y w then some (dget kvs w).isSome else if decide (w = .non) && keyFor y w then some false else none
      | none => none
    | _, _ => none

/-- bounds, kept so that a kernel never counts them out -/
def small : Int → Bool
  | .ofNat n => Nat.blt n 4611686018427387904
  | .negSucc n => Nat.blt n 4611686018427387903
theorem small_iff (i : Int) : small i = true ↔ -4611686018427387904 < i ∧ i < 4611686018427387904 := by
  cases i with
  | ofNat n =>
    show Nat.blt n 4611686018427387904 = true ↔ _
    rw [Nat.blt_eq]
    simp only [Int.ofNat_eq_natCast]
    omega
  | negSucc n =>
    show Nat.blt n 4611686018427387903 = true ↔ _
    rw [Nat.blt_eq]
    omega
def shown : Int → Bool
  | .ofNat n => Nat.blt n 10000000000
  | .negSucc _ => false
theorem shown_iff (i : Int) : shown i = true ↔ 0 ≤ i ∧ i < 10000000000 := by
  cases i with
  | ofNat n =>
    show Nat.blt n 10000000000 = true ↔ _
    rw [Nat.blt_eq]
    simp only [Int.ofNat_eq_natCast]
    omega
  | negSucc n =>
    show false = true ↔ _
    simp only [Bool.false_eq_true, false_iff]
    omega

def binR (op : Bop) (G : Gp) (x y : R) : Option R := match op with
  | .add => match x, y with
    | .val (.int i), .val (.int j) => some (.val (.int (i + j)))
    | .val (.str a), .val (.str b) => if a.length + b.length ≤ sizeL then some (.val (.str (a ++ b))) else none
    | .val (.tup a), .val (.tup b) => if a.length + b.length ≤ sizeL then some (.val (.tup (a ++ b))) else none
    | _, _ => match contentU G x, contentU G y with
      | some (.lst a), some (.lst b) => if a.length + b.length ≤ sizeL then some (.obj .own (.lst (a ++ b))) else none
      | _, _ => none
  | .sub => match x, y with | .val (.int i), .val (.int j) => some (.val (.int (i - j))) | _, _ => none
  | .mul => match x, y with
    | .val (.int i), .val (.int j) => if small i || small j then some (.val (.int (i * j))) else none
    | .val (.tup a), .val (.int j) => if a ≠ [] ∧ 2 ≤ j ∧ j ≤ 1000 ∧ a.length ≤ 1000 then some (.val (.tup (List.replicate j.toNat a).flatten)) else none
    | _, .val (.int j) => match contentU G x with
      | some (.lst a) => if -1000 ≤ j ∧ j ≤ 1000 ∧ a.length ≤ 1000 then some (.obj .own (.lst (List.replicate j.toNat a).flatten)) else none
      | _ => none
    | _, _ => none
  | .mod => match x, y with | .val (.int i), .val (.int j) => if 0 < j then some (.val (.int (i % j))) else none | _, _ => none
  | .fdiv => match x, y with | .val (.int i), .val (.int j) => if 0 < j ∧ j < 1073741824 then some (.val (.int (i / j))) else none | _, _ => none
  | .pow => match x, y with | .val (.int i), .val (.int j) => if 0 ≤ j ∧ j ≤ 1000 ∧ i.natAbs < 1000000 then some (.val (.int (i ^ j.toNat))) else none | _, _ => none

/-- an index in bounds -/
def ixOf (i : Int) (n : Nat) : Option Nat :=
  if 0 ≤ i then (if i < n then some i.toNat else none) else if -(n : Int) ≤ i then some (i + n).toNat else none
def idxR (G : Gp) (x i : R) : Option W := match x, i with
  | .val (.str s), .val (.int i) => if sizeL < s.length then none else (ixOf i s.length).bind fun k => (s[k]?).map fun c => .str [c]
  | .val (.tup xs), .val (.int i) => (ixOf i xs.length).bind fun k => xs[k]?
  | _, .val w => match content G x with
    | some (.lst xs) => match w with
      | .int i => (ixOf i xs.length).bind fun k => xs[k]?
      | _ => none
    | some (.dct kvs) => if keyOk w && keyFor x w then dget kvs w else none
    | none => none
  | _, _ => none
/-- a slice's end, as Python reckons it -/
def endOf (d : Nat) (n : Nat) : Option R → Option Nat
  | none => some d
  | some (.val (.int i)) => if small i then some (if i < 0 then (i + n).toNat else min i.toNat n) else none
  | _ => none
def cut {α : Type} (a b : Nat) (xs : List α) : List α := (xs.drop a).take (b - a)
def slcR (G : Gp) (x : R) (lo hi : Option R) : Option R := match x with
  | .val (.str s) => if sizeL < s.length then none else (endOf 0 s.length lo).bind fun a => (endOf s.length s.length hi).map fun b => .val (.str (cut a b s))
  | .val (.tup s) => (endOf 0 s.length lo).bind fun a => (endOf s.length s.length hi).map fun b => .val (.tup (cut a b s))
  | _ => match content G x with
    | some (.lst s) => (endOf 0 s.length lo).bind fun a => (endOf s.length s.length hi).map fun b => .obj .own (.lst (cut a b s))
    | _ => none

/-- a whole number's figures -/
def showN (n : Nat) : Tx := (Nat.toDigits 10 n).map Char.toNat
def isFig (c : Nat) : Bool := decide (48 ≤ c) && decide (c ≤ 57)
def readN (s : Tx) : Nat := s.foldl (fun a c => a * 10 + (c - 48)) 0

def splitT (c : Nat) : Tx → List Tx
  | [] => [[]]
  | x :: xs => if x = c then [] :: splitT c xs else match splitT c xs with
    | [] => [[x]]
    | y :: ys => (x :: y) :: ys
def joinT (s : Tx) : List Tx → Tx
  | [] => []
  | [x] => x
  | x :: xs => x ++ s ++ joinT s xs
def strsW : List W → Option (List Tx)
  | [] => some []
  | .str s :: r => (strsW r).map (s :: ·)
  | _ :: _ => none
def intsW : List W → Option (List Int)
  | [] => some []
  | .int s :: r => (intsW r).map (s :: ·)
  | _ :: _ => none
def maxI : Int → List Int → Int
  | a, [] => a
  | a, b :: r => maxI (if a < b then b else a) r
def insI (a : Int) : List Int → List Int
  | [] => [a]
  | b :: r => if a ≤ b then a :: b :: r else b :: insI a r
def sortI : List Int → List Int
  | [] => []
  | a :: r => insI a (sortI r)
def ltT : Tx → Tx → Bool
  | [], [] => false
  | [], _ :: _ => true
  | _ :: _, [] => false
  | a :: as, b :: bs => decide (a < b) || (decide (a = b) && ltT as bs)
def insT (a : Tx) : List Tx → List Tx
  | [] => [a]
  | b :: r => if ltT b a then b :: insT a r else a :: b :: r
def sortT : List Tx → List Tx
  | [] => []
  | a :: r => insT a (sortT r)
mutual
/-- of one kind, at every place -/
def sameK : W → W → Bool
  | .int _, .int _ => true
  | .str _, .str _ => true
  | .tup a, .tup b => sameKs a b
  | _, _ => false
def sameKs : List W → List W → Bool
  | a :: as, b :: bs => sameK a b && sameKs as bs
  | _, _ => true
end
mutual
def ltW : W → W → Bool
  | .int a, .int b => decide (a < b)
  | .str a, .str b => ltT a b
  | .tup a, .tup b => ltWs a b
  | _, _ => false
def ltWs : List W → List W → Bool
  | [], _ :: _ => true
  | a :: as, b :: bs => ltW a b || (decide (a = b) && ltWs as bs)
  | _, [] => false
end
def insW (a : W) : List W → List W
  | [] => [a]
  | b :: r => if ltW b a then b :: insW a r else a :: b :: r
def sortW : List W → List W
  | [] => []
  | a :: r => insW a (sortW r)
def allSame : List W → Bool
  | [] => true
  | a :: r => r.all (sameK a) && allSame r
def minW : W → List W → W
  | a, [] => a
  | a, b :: r => minW (if ltW b a then b else a) r
/-- rising, each once -/
def setI : List Int → List Int
  | [] => []
  | a :: r => insU a (setI r)
where insU (a : Int) : List Int → List Int
  | [] => [a]
  | b :: r => if a < b then a :: b :: r else if a = b then b :: r else b :: insU a r

def pairs : List W → Option (List (W × W))
  | [] => some []
  | .tup [k, v] :: r => if keyOk k then (pairs r).map ((k, v) :: ·) else none
  | _ :: _ => none
def dputs (d : List (W × W)) : List (W × W) → List (W × W)
  | [] => d
  | (k, v) :: r => dputs (dput d k v) r

def rngW (a : Int) : Nat → List W
  | 0 => []
  | n + 1 => .int a :: rngW (a + 1) n
def lenR (G : Gp) (x : R) : Option R := match x with
  | .val (.str s) => if s.length ≤ sizeL then some (.val (.int s.length)) else none
  | .val (.tup s) => some (.val (.int s.length))
  | _ => match content G x with
    | some (.lst s) => some (.val (.int s.length))
    | some (.dct s) => match x with
      | .obj .top _ => none
      | _ => some (.val (.int s.length))
    | none => none
def strR (_ : Gp) (x : R) : Option R := match x with
  | .val (.int i) => if shown i then some (.val (.str (showN i.toNat))) else none
  | .val (.str s) => some (.val (.str s))
  | _ => none
def intR (_ : Gp) (x : R) : Option R := match x with
  | .val (.str s) => if s ≠ [] ∧ s.length ≤ 600 ∧ s.all isFig = true then some (.val (.int (readN s))) else none
  | .val (.bl b) => some (.val (.int (if b then 1 else 0)))
  | _ => none
def listR (G : Gp) (x : R) : Option R := (seqOf G x).map fun xs => .obj .own (.lst xs)
def tupleR (G : Gp) (x : R) : Option R := match content G x with
  | some (.lst xs) => some (.val (.tup xs))
  | _ => none
def dictR (G : Gp) (x : R) : Option R := match content G x with
  | some (.lst xs) => (pairs xs).map fun ps => .obj .own (.dct (dputs [] ps))
  | _ => none
def maxR (G : Gp) (x : R) : Option R := match content G x with
  | some (.lst xs) => (intsW xs).bind fun
    | [] => none
    | a :: r => some (.val (.int (maxI a r)))
  | _ => none
def minR (G : Gp) (xs : List R) : Option R := match xs with
  | [.val (.int i), .val (.int j)] => some (.val (.int (if j < i then j else i)))
  | [.val (.tup a), .val (.tup b)] => if sameKs a b then some (.val (minW (.tup a) [.tup b])) else none
  | [x] => match content G x with
    | some (.lst (a :: r)) => if allSame (a :: r) then some (.val (minW a r)) else none
    | _ => none
  | _ => none
def sortedR (G : Gp) (x : R) : Option R := (match content G x with
    | some (.lst xs) => some xs
    | some (.dct kvs) => some (kvs.map (fun (p : W × W) => p.1))
    | none => none).bind fun (xs : List W) => match intsW xs, strsW xs with
      | some is, _ => some (.obj .own (.lst ((sortI is).map .int)))
      | none, some ss => some (.obj .own (.lst ((sortT ss).map .str)))
      | none, none => if allSame xs then some (.obj .own (.lst (sortW xs))) else none
def setR (G : Gp) (x : R) : Option R := match content G x with
  | some (.lst xs) => (intsW xs).map fun is => .obj .own (.lst ((setI is).map .int))
  | _ => none
def lrangeR (xs : List R) : Option R := match xs with
  | [.val (.int n)] => if small n && decide (n ≤ 1000) then some (.obj .own (.lst (rngW 0 n.toNat))) else none
  | [.val (.int a), .val (.int b)] => if small a && small b && decide (b - a ≤ 1000) then some (.obj .own (.lst (rngW a (b - a).toNat))) else none
  | _ => none
def one1 (f : R → Option R) : List R → Option R
  | [x] => f x
  | _ => none
def fnR (b : Fb) (G : Gp) (xs : List R) : Option R := match b with
  | .len => one1 (lenR G) xs
  | .str => one1 (strR G) xs
  | .int => one1 (intR G) xs
  | .list => one1 (listR G) xs
  | .tuple => one1 (tupleR G) xs
  | .dict => one1 (dictR G) xs
  | .max => one1 (maxR G) xs
  | .min => minR G xs
  | .sorted => one1 (sortedR G) xs
  | .sortedset => one1 (setR G) xs
  | .lrange => lrangeR xs

def isiR (sup : Nat → Nat → Bool) (G : Gp) (x : R) (t : Ty) : Option Bool := match x with
  | .exv c _ => match t with
    | .exc k => some (sup c k)
    | _ => none
  | _ => match t with
    | .exc _ => none
    | _ => match content G x with
      | some (.lst _) => some (decide (t = .list))
      | some (.dct _) => some false
      | none => match x with
        | .val .non => some false
        | .val (.bl _) => some (decide (t = .bool ∨ t = .int))
        | .val (.int _) => some (decide (t = .int))
        | .val (.str _) => some (decide (t = .str))
        | .val (.tup _) => some (decide (t = .tuple))
        | _ => none
def isisR (sup : Nat → Nat → Bool) (G : Gp) (x : R) : List Ty → Option Bool
  | [] => some false
  | t :: ts => (isiR sup G x t).bind fun a => (isisR sup G x ts).map fun b => a || b

/-- methods that change nothing -/
def splitR (x y : R) : Option R := match x with
  | .val (.str s) => match y with
    | .val (.str [c]) => if s.length + 2 ≤ sizeL then some (.obj .own (.lst ((splitT c s).map .str))) else none
    | _ => none
  | _ => none
def joinR (G : Gp) (x y : R) : Option R := match x with
  | .val (.str s) => match content G y with
    | some (.lst xs) => (strsW xs).bind fun ts => if (ts.map (·.length)).sum + ts.length * s.length ≤ sizeL then some (.val (.str (joinT s ts))) else none
    | _ => none
  | _ => none
def indexR (G : Gp) (x y : R) : Option R := match x with
  | .val (.str s) => match y with
    | .val (.str [c]) => (s.idxOf? c).map fun k => .val (.int k)
    | _ => none
  | _ => match y with
    | .val w => (seqOf G x).bind fun xs => if plainW w && xs.all plainW && xs.all (fun x => cmpOk x w) then (xs.idxOf? w).map fun k => .val (.int k) else none
    | _ => none
def countR (G : Gp) (x y : R) : Option R := match y with
  | .val w => (seqOf G x).bind fun xs => if flatW w && ws xs && xs.all (fun x => cmpOk x w) then some (.val (.int (xs.count w))) else none
  | _ => none
def getR (G : Gp) (x k d : R) : Option R := match content G x with
  | some (.dct kvs) => match k with
    | .val k => if keyOk k && keyFor x k then some (match dget kvs k with
      | some w => .val w
      | none => d) else none
    | _ => none
  | _ => none
def two2 (f : R → R → Option R) : List R → Option R
  | [x, y] => f x y
  | _ => none
def mtR (G : Gp) (x : R) (m : Mb) (ys : List R) : Option R := match m with
  | .split => one1 (splitR x) ys
  | .join => one1 (joinR G x) ys
  | .index => one1 (indexR G x) ys
  | .count => one1 (countR G x) ys
  | .get => match ys with
    | [k] => getR G x k (.val .non)
    | _ => two2 (getR G x) ys
  | _ => none

/-- methods that change an object: its new content, what is told -/
def appendO (o : O) (y : R) : Option (O × W) := match o with
  | .lst xs => match y with
    | .val w => if xs.length < sizeL then some (.lst (xs ++ [w]), .non) else none
    | _ => none
  | _ => none
def extendO (G : Gp) (o : O) (y : R) : Option (O × W) := match o with
  | .lst xs => match contentU G y with
    | some (.lst zs) => if xs.length + zs.length ≤ sizeL then some (.lst (xs ++ zs), .non) else none
    | _ => none
  | _ => none
def insertO (o : O) (i y : R) : Option (O × W) := match o with
  | .lst xs => match i with
    | .val (.int i) => match y with
      | .val w => if 0 ≤ i ∧ i < 4611686018427387904 ∧ xs.length < sizeL then some (.lst (xs.take i.toNat ++ [w] ++ xs.drop i.toNat), .non) else none
      | _ => none
    | _ => none
  | _ => none
def removeO (o : O) (y : R) : Option (O × W) := match o with
  | .lst xs => match y with
    | .val (.int k) => match intsW xs with
      | some is => if k ∈ is then some (.lst ((is.erase k).map .int), .non) else none
      | none => none
    | _ => none
  | _ => none
def popO (o : O) (y : R) : Option (O × W) := match o with
  | .lst xs => match y with
    | .val (.int i) => if small i then (ixOf i xs.length).bind fun k => (xs[k]?).map fun w => (.lst (xs.eraseIdx k), w) else none
    | _ => none
  | .dct kvs => match y with
    | .val k => if keyOk k then (dget kvs k).map fun w => (.dct (kvs.filter fun p => p.1 ≠ k), w) else none
    | _ => none
def setdefO (o : O) (y d : R) : Option (O × W) := match o with
  | .dct kvs => match y with
    | .val k => match d with
      | .val d => if keyOk k ∧ kvs.length < sizeL then (match dget kvs k with
        | some w => some (.dct kvs, w)
        | none => some (.dct (dput kvs k d), d)) else none
      | _ => none
    | _ => none
  | _ => none
def updateO (G : Gp) (o : O) (y : R) : Option (O × W) := match o with
  | .dct kvs => match content G y with
    | some (.dct ps) => if kvs.length + ps.length < sizeL then some (.dct (dputs kvs ps), .non) else none
    | some (.lst xs) => (pairs xs).bind fun ps => if kvs.length + ps.length < sizeL then some (.dct (dputs kvs ps), .non) else none
    | none => none
  | _ => none
def on1 (f : R → Option (O × W)) : List R → Option (O × W)
  | [x] => f x
  | _ => none
def on2 (f : R → R → Option (O × W)) : List R → Option (O × W)
  | [x, y] => f x y
  | _ => none
def muR (G : Gp) (o : O) (m : Mb) (ys : List R) : Option (O × W) := match m with
  | .append => on1 (appendO o) ys
  | .extend => on1 (extendO G o) ys
  | .insert => on2 (insertO o) ys
  | .remove => on1 (removeO o) ys
  | .pop => on1 (popO o) ys
  | .setdefault => on2 (setdefO o) ys
  | .update => on1 (updateO G o) ys
  | .clear => match o, ys with
    | .lst _, [] => some (.lst [], .non)
    | _, _ => none
  | .reverse => match o, ys with
    | .lst xs, [] => some (.lst xs.reverse, .non)
    | _, _ => none
  | _ => none
def changes : Mb → Bool
  | .append | .extend | .insert | .remove | .pop | .setdefault | .update | .clear | .reverse => true
  | _ => false
/-- o[i] = w -/
def putO (o : O) (i w : W) : Option O := match o, i with
  | .lst xs, .int i => (ixOf i xs.length).map fun k => .lst (xs.set k w)
  | .dct kvs, k => if keyOk k ∧ kvs.length < sizeL then some (.dct (dput kvs k w)) else none
  | _, _ => none
def putF (fs : List (Nat × W)) (f : Nat) (w : W) : List (Nat × W) := match fs with
  | [] => [(f, w)]
  | (a, b) :: r => if a = f then (a, w) :: r else (a, b) :: putF r f w

/-! ### the program -/
structure Fd where
  np : Nat
  ns : Nat
  body : List S
inductive FO where
  | ok (r : R) (G : Gp) | exc (c : Nat) (w : W) (G : Gp) | bad
/-- what an expression may ask of around -/
structure Wd where
  gl : Nat → Option R
  me : Nat → Nat → Option Nat
  ini : Nat → Option Nat
  sup : Nat → Nat → Bool
  fe : Nat → Nat → Bool
  cf : Nat → List R → Gp → FO
  cn : Nat → List R → Gp → FO

def FO.eo : FO → EO R
  | .ok r G => .ok r G
  | .exc c w G => .exc c w G
  | .bad => .bad
/-- as an argument -/
def asArg : R → R
  | .obj (.brw _) o => .obj .frz o
  | r => r

def noTop : List R → Bool
  | [] => true
  | .obj .top _ :: _ => false
  | _ :: r => noTop r
section
variable (w : Wd)
/-- a def called -/
def callR (cf : List R → Gp → FO) (xs : List R) (G : Gp) : EO R := if noTop xs then (cf (xs.map asArg) G).eo else .bad

def condL (r : R) : Option Bool := match r with
  | .val (.bl b) => some b
  | _ => none
def getS (σ : Sl) (i : Nat) : Option R := match σ[i]? with
  | some (some (.obj .own o)) => some (.obj (.brw i) o)
  | some (some r) => some r
  | _ => none
/-- the names of a walk's target take an item -/
def bindT (tg : List Nat) (x : W) (σ : Sl) : Option Sl := match tg with
  | [i] => some (σ.set i (some (.val x)))
  | _ => match x with
    | .tup xs => if xs.length = tg.length then some ((tg.zip xs).foldl (fun (σ : Sl) (p : Nat × W) => σ.set p.1 (some (.val p.2))) σ) else none
    | _ => none
def enumW : Nat → List W → List W
  | _, [] => []
  | n, x :: xs => .tup [.int n, x] :: enumW (n + 1) xs
/-- a list's items -/
def lstOf (G : Gp) (r : R) : Option (List W) := match content G r with
  | some (.lst xs) => some xs
  | _ => none
def walk (G : Gp) (ik : Ik) (xs : List R) : Option (List W) := match ik, xs with
  | .of, [x] => items G x
  | .rng, [.val (.int n)] => if small n then some (rngW 0 n.toNat) else none
  | .rng, [.val (.int a), .val (.int b)] => if small a && small b then some (rngW a (b - a).toNat) else none
  | .enm, [x] => (lstOf G x).map (enumW 0)
  | .zip, [x, y] => (lstOf G x).bind fun a => (lstOf G y).map fun b => (a.zip b).map fun (p : W × W) => W.tup [p.1, p.2]
  | _, _ => none
def wipeS (σ : Sl) : List Nat → Sl
  | [] => σ
  | v :: vs => (wipeS σ vs).set v none
/-- a comprehension's turns -/
def lcL (chk : Gp → Bool) (step : W → Gp → EO (Option W)) : List W → Gp → EO (List W)
  | [], G => if chk G then .ok [] G else .bad
  | x :: xs, G => if chk G then (step x G).bind fun y G => (lcL chk step xs G).bind fun ys G => .ok (match y with | some y => y :: ys | none => ys) G else .bad

/-- what is laid into an object is boxed, but what is read through alone -/
def boxR (m : Mb) (ys : List R) (G : Gp) : EO (List R) := match m, ys with
  | .append, [y] => (toW y G).bind fun y G => .ok [.val y] G
  | .insert, [i, y] => (toW y G).bind fun y G => .ok [i, .val y] G
  | .setdefault, [k, y] => (toW y G).bind fun y G => .ok [k, .val y] G
  | _, ys => .ok ys G
def negR (x : R) (G : Gp) : EO R := match x with
  | .val (.int i) => .ok (.val (.int (-i))) G
  | _ => .bad
def boolR (b : Option Bool) (G : Gp) : EO R := opt (b.map fun b => .val (.bl b)) G
def lstR (xs : List W) (G : Gp) : EO R := if xs.length ≤ sizeL then .ok (.obj .own (.lst xs)) G else .bad
def tupR (xs : List W) (G : Gp) : EO R := if xs.length ≤ sizeL then .ok (.val (.tup xs)) G else .bad
def pairUp : List W → List (W × W)
  | k :: v :: r => (k, v) :: pairUp r
  | _ => []
def dctR (ps : List (W × W)) (G : Gp) : EO R :=
  if ps.all (fun p => keyOk p.1) && decide (ps.length ≤ 15) then .ok (.obj .own (.dct (dputs [] ps))) G else .bad
def revR (x : R) (G : Gp) : EO R := match content G x with
  | some (.lst xs) => .ok (.obj .own (.lst xs.reverse)) G
  | _ => .bad
def fldR (fe : Nat → Nat → Bool) (f : Nat) (x : R) (G : Gp) : EO R := match x with
  | .exv c v => if fe c f then .ok (.val v) G else .bad
  | .val (.ref p) => match G[p]? with
    | some (.ins _ fs) => opt ((fs.lookup f).map .val) G
    | _ => .bad
  | _ => .bad
/-- an instance and its class -/
def insOf (x : R) (G : Gp) : EO (Nat × Nat) := match x with
  | .val (.ref p) => match G[p]? with
    | some (.ins c _) => .ok (p, c) G
    | _ => .bad
  | _ => .bad
def methR (p c m : Nat) (xs : List R) (G : Gp) : EO R := match w.me c m with
  | some f => callR (w.cf f) (.val (.ref p) :: xs) G
  | none => .bad
def newR (c : Nat) (xs : List R) (G : Gp) : EO R := match w.ini c with
  | some f => if noTop xs then (match w.cn f (.val (.ref G.length) :: xs.map asArg) (G ++ [.ins c []]) with
    | .ok (.val .non) G' => .ok (.val (.ref G.length)) G'
    | .exc c w G' => .exc c w G'
    | _ => .bad) else .bad
  | none => .bad
def muE (o : O) (m : Mb) (ys : List R) (G : Gp) (k : O → W → EO R) : EO R := match muR G o m ys with
  | some (o', r) => k o' r
  | none => .bad
/-- a receiver's kind -/
inductive Kn where | lst | dct | str | tup
  deriving DecidableEq
def kindR (G : Gp) (x : R) : Option Kn := match x with
  | .val (.str _) => some .str
  | .val (.tup _) => some .tup
  | x => match content G x with
    | some (.lst _) => some .lst
    | some (.dct _) => some .dct
    | none => none
def mtE (k : Kn) (x : R) (m : Mb) (ys : List R) (G : Gp) : EO R := if kindR G x ≠ some k then .bad else
  if changes m then match x with
    | .val (.ref p) => (boxR m ys G).bind fun ys G => match G[p]? with
      | some (.obj o) => muE o m ys G fun o' r => .ok (.val r) (G.set p (.obj o'))
      | _ => .bad
    | .obj .own o => (boxR m ys G).bind fun ys G => muE o m ys G fun _ r => .ok (.val r) G
    | _ => .bad
  else opt (mtR G x m ys) G
def lcStep (own tg : List Nat) (fc : Sl → Gp → EO Bool) (fe : Sl → Gp → EO R) (σ : Sl) (x : W) (G : Gp) : EO (Option W) := match bindT tg x (wipeS σ own) with
  | none => .bad
  | some σ' => (fc σ' G).bind fun k G => if k then (fe σ' G).bind fun y G => (toW y G).bind fun y G => .ok (some y) G else .ok none G
/-- a shared dict is locked while it is walked -/
def lockOf (G : Gp) (ik : Ik) (xs : List R) : Option (Nat × O) := match ik, xs with
  | .of, [.val (.ref p)] => match G[p]? with
    | some (.obj (.dct kvs)) => some (p, .dct kvs)
    | _ => none
  | _, _ => none
def lockG (l : Option (Nat × O)) (G : Gp) : Gp := match l with
  | some (p, o) => G.set p (.frz o)
  | none => G
def unlockG (l : Option (Nat × O)) (G : Gp) : Gp := match l with
  | some (p, o) => G.set p (.obj o)
  | none => G
/-- what is walked is as it was -/
def chkW (ks : List (Option Kn)) (ik : Ik) (xs : List R) (its : List W) (G : Gp) : Bool := decide (walk G ik xs = some its) && decide (xs.map (kindR G) = ks)
def lcR (own tg : List Nat) (ik : Ik) (fc : Sl → Gp → EO Bool) (fe : Sl → Gp → EO R) (σ : Sl) (xs : List R) (G : Gp) : EO R := match walk G ik xs with
  | none => .bad
  | some its => (lcL (chkW (xs.map (kindR G)) ik xs its) (fun x G => (lcStep own tg fc fe σ x G).calm) its (lockG (lockOf G ik xs) G)).bind fun ys G' =>
    if ys.length < sizeL then .ok (.obj .own (.lst ys)) (unlockG (lockOf G ik xs) G') else .bad

/-- no dict that a slot owns is walked -/
def noDct : List R → Bool
  | [] => true
  | .obj _ (.dct _) :: _ => false
  | _ :: r => noDct r
/-- a source whose value does not hang on what is locked -/
def simpS : List E → Bool
  | [.v _] => true
  | [.fld (.v _) _] => true
  | [.idx (.v _) (.c _)] => true
  | _ => false
def isDct : Option GO → Bool
  | some (.obj (.dct _)) => true
  | some (.frz (.dct _)) => true
  | _ => false
def lockS (src : List E) (G : Gp) (ik : Ik) (xs : List R) : Bool := noDct xs && (simpS src || (match ik, xs with
  | .of, [.val (.ref p)] => !(isDct G[p]?)
  | _, _ => true))

mutual
def ev : E → Sl → Gp → EO R
  | .c k, _, G => .ok (.val k) G
  | .v i, σ, G => opt (getS σ i) G
  | .g k, _, G => opt (w.gl k) G
  | .bin op a b, σ, G => (ev a σ G).bind fun x G => (ev b σ G).bind fun y G => opt (binR op G x y) G
  | .neg a, σ, G => (ev a σ G).bind fun x G => negR x G
  | .cmp op a b, σ, G => (ev a σ G).bind fun x G => (ev b σ G).bind fun y G => boolR (cmpR op G x y) G
  | .chain o1 o2 a b c, σ, G => (ev a σ G).bind fun x G => (ev b σ G).bind fun y G => (opt (cmpR o1 G x y) G).bind fun k G =>
    if k then (ev c σ G).bind fun z G => boolR (cmpR o2 G y z) G else .ok (.val (.bl false)) G
  | .and a b, σ, G => (ev a σ G).bind fun x G => (opt (condL x) G).bind fun k G => if k then ev b σ G else .ok (.val (.bl false)) G
  | .or a b, σ, G => (ev a σ G).bind fun x G => (opt (condL x) G).bind fun k G => if k then .ok (.val (.bl true)) G else ev b σ G
  | .not a, σ, G => (ev a σ G).bind fun x G => (opt (condL x) G).bind fun k G => .ok (.val (.bl (!k))) G
  | .ite c a b, σ, G => (ev c σ G).bind fun x G => (opt (condL x) G).bind fun k G => if k then ev a σ G else ev b σ G
  | .lst es, σ, G => (evW es σ G).bind fun xs G => lstR xs G
  | .tup es, σ, G => (evW es σ G).bind fun xs G => tupR xs G
  | .dct kvs, σ, G => (evW kvs σ G).bind fun ps G => dctR (pairUp ps) G
  | .idx a i, σ, G => (ev a σ G).bind fun x G => (ev i σ G).bind fun i G => opt ((idxR G x i).map .val) G
  | .slc a lo hi, σ, G => (ev a σ G).bind fun x G => (evO lo σ G).bind fun l G => (evO hi σ G).bind fun h G => opt (slcR G x l h) G
  | .rev a, σ, G => (ev a σ G).bind fun x G => revR x G
  | .fld a f, σ, G => (ev a σ G).bind fun x G => fldR w.fe f x G
  | .call f es, σ, G => (evs es σ G).bind fun xs G => callR (w.cf f) xs G
  | .meth a m es, σ, G => (ev a σ G).bind fun x G => (insOf x G).bind fun pc G => (evs es σ G).bind fun xs G => methR w pc.1 pc.2 m xs G
  | .new c es, σ, G => (evs es σ G).bind fun xs G => newR w c xs G
  | .isi a ts, σ, G => (ev a σ G).bind fun x G => boolR (isisR w.sup G x ts) G
  | .fn b es, σ, G => (evs es σ G).bind fun xs G => opt (fnR b G xs) G
  | .mt a m es, σ, G => (ev a σ G).bind fun x G => (opt (kindR G x) G).bind fun k G => (evs es σ G).bind fun ys G => mtE k x m ys G
  | .lc own tg ik src cond elt, σ, G => (evs src σ G).bind fun xs G => if lockS src G ik xs then lcR own tg ik (evC cond) (ev elt) σ xs G else .bad
  | .bad, _, _ => .bad
def evs : List E → Sl → Gp → EO (List R)
  | [], _, G => .ok [] G
  | e :: es, σ, G => (ev e σ G).bind fun x G => (evs es σ G).bind fun xs G => .ok (x :: xs) G
def evW : List E → Sl → Gp → EO (List W)
  | [], _, G => .ok [] G
  | e :: es, σ, G => (ev e σ G).bind fun x G => (toW x G).bind fun x G => (evW es σ G).bind fun xs G => .ok (x :: xs) G
def evO : Option E → Sl → Gp → EO (Option R)
  | none, _, G => .ok none G
  | some e, σ, G => (ev e σ G).bind fun x G => .ok (some x) G
def evC : Option E → Sl → Gp → EO Bool
  | none, _, G => .ok true G
  | some e, σ, G => (ev e σ G).bind fun x G => opt (condL x) G
end

/-! ### statements -/
def SO.then (x : SO) (f : Sl → Gp → SO) : SO := match x with
  | .nx σ G => f σ G
  | y => y
def EO.so {α : Type} (x : EO α) (σ : Sl) (f : α → Gp → SO) : SO := match x with
  | .ok a G => f a G
  | .exc c w G => .exc c w σ G
  | .bad => .bad
/-- a right side that is stored in a slot: what a slot owns and another shall look at too is frozen -/
def takA (r : R) (σ : Sl) (G : Gp) : EO (R × Sl) := match r with
  | .obj (.brw i) o => .ok (.obj .frz o, σ.set i (some (.obj .frz o))) G
  | .obj .own o => .ok (.obj .own o, σ) G
  | .obj .frz o => .ok (.obj .frz o, σ) G
  | .val x => .ok (.val x, σ) G
  | _ => .bad
def evA (e : E) (σ : Sl) (G : Gp) : EO (R × Sl) := (ev w e σ G).bind fun r G => takA r σ G
/-- a value that goes into an object: what a slot owns is shared from now on -/
def takM (r : R) (σ : Sl) (G : Gp) : EO (W × Sl) := match r with
  | .obj (.brw i) o => .ok (.ref G.length, σ.set i (some (.val (.ref G.length)))) (G ++ [.obj o])
  | .obj .own o => .ok (.ref G.length, σ) (G ++ [.obj o])
  | .val x => .ok (x, σ) G
  | _ => .bad
def evM (e : E) (σ : Sl) (G : Gp) : EO (W × Sl) := (ev w e σ G).bind fun r G => takM r σ G
def evMs : List E → Sl → Gp → EO (List W × Sl)
  | [], σ, G => .ok ([], σ) G
  | e :: es, σ, G => (evM w e σ G).bind fun p G => (evMs es p.2 G).calm.bind fun q G => .ok (p.1 :: q.1, q.2) G
/-- a value stored at a target -/
def stW (t : T) (x : W) (σ : Sl) (G : Gp) : SO := match t with
  | .v i => .nx (σ.set i (some (.val x))) G
  | .vb i => .nx (σ.set i (some (.val x))) G
  | .sub (.v j) i => match σ[j]? with
    | some (some (.obj .own o)) => (ev w i σ G).so σ fun i G => match i with
      | .val i => match putO o i x with
        | some o' => .nx (σ.set j (some (.obj .own o'))) G
        | none => .bad
      | _ => .bad
    | some (some (.val (.ref p))) => (ev w i σ G).so σ fun i G => match i, G[p]? with
      | .val i, some (.obj o) => match putO o i x with
        | some o' => .nx σ (G.set p (.obj o'))
        | none => .bad
      | _, _ => .bad
    | _ => .bad
  | .sub a i => (ev w a σ G).so σ fun a G => (ev w i σ G).so σ fun i G => match a, i with
    | .val (.ref p), .val i => match G[p]? with
      | some (.obj o) => match putO o i x with
        | some o' => .nx σ (G.set p (.obj o'))
        | none => .bad
      | _ => .bad
    | _, _ => .bad
  | .fld a f => (ev w a σ G).so σ fun a G => match a with
    | .val (.ref p) => match G[p]? with
      | some (.ins c fs) => .nx σ (G.set p (.ins c (putF fs f x)))
      | _ => .bad
    | _ => .bad
def stR (t : T) (r : R) (σ : Sl) (G : Gp) : SO := match t with
  | .v i => .nx (σ.set i (some r)) G
  | t => (toW r G).so σ fun x G => stW w t x σ G
def stWs : List T → List W → Sl → Gp → SO
  | [], [], σ, G => .nx σ G
  | t :: ts, x :: xs, σ, G => (stW w t x σ G).then fun σ G => stWs ts xs σ G
  | _, _, _, _ => .bad
def stRs : List T → List R → Sl → Gp → SO
  | [], [], σ, G => .nx σ G
  | t :: ts, x :: xs, σ, G => (stR w t x σ G).then fun σ G => stRs ts xs σ G
  | _, _, _, _ => .bad
def noBrw : List R → Bool
  | [] => true
  | .obj (.brw _) _ :: _ => false
  | .obj .top _ :: _ => false
  | _ :: r => noBrw r
def argsM (m : Mb) (es : List E) (σ : Sl) (G : Gp) : EO (List R × Sl) := match m, es with
  | .append, [e] => (evM w e σ G).bind fun p G => .ok ([.val p.1], p.2) G
  | _, es => (evs w es σ G).bind fun ys G => (boxR m ys G).bind fun ys G => .ok (ys, σ) G
def slotK (σ : Sl) (G : Gp) (i : Nat) : Option Kn := match σ[i]? with
  | some (some r) => kindR G r
  | _ => none
/-- x.m(..) where x may own -/
def mutR (i : Nat) (m : Mb) (es : List E) (σ : Sl) (G : Gp) : SO := match slotK σ G i with
  | none => .bad
  | some k => (argsM w m es σ G).so σ fun p G => if slotK p.2 G i = some k then (match p.2[i]? with
    | some (some (.obj .own o)) => match muR G o m p.1 with
      | some (o', _) => .nx (p.2.set i (some (.obj .own o'))) G
      | none => .bad
    | some (some (.val (.ref q))) => match G[q]? with
      | some (.obj o) => match muR G o m p.1 with
        | some (o', _) => .nx p.2 (G.set q (.obj o'))
        | none => .bad
      | _ => .bad
    | _ => .bad) else .bad

def retE (e : E) (σ : Sl) (G : Gp) : SO := (ev w e σ G).so σ fun r G => match r with
  | .obj (.brw _) o => .ret (.obj .own o) G
  | .obj .own o => .ret (.obj .own o) G
  | .val x => .ret (.val x) G
  | _ => .bad
def asgR (t : T) (e : E) (σ : Sl) (G : Gp) : SO := match t with
  | .v i => (evA w e σ G).so σ fun p G => .nx (p.2.set i (some p.1)) G
  | t => (evM w e σ G).so σ fun p G => stW w t p.1 p.2 G
/-- what a slot owns is frozen when it is walked -/
def frz1 (σ : Sl) (i : Nat) : Sl := match σ[i]? with
  | some (some (.obj .own o)) => σ.set i (some (.obj .frz o))
  | _ => σ
def frzS : List R → Sl → Sl
  | [], σ => σ
  | .obj (.brw i) _ :: rs, σ => frzS rs (frz1 σ i)
  | _ :: rs, σ => frzS rs σ
def forL (step : W → Sl → Gp → SO) (chk : Gp → Bool) : List W → Sl → Gp → SO
  | [], σ, G => if chk G then .nx σ G else .bad
  | x :: xs, σ, G => if chk G then (match step x σ G with
    | .nx σ G => forL step chk xs σ G
    | .ct σ G => forL step chk xs σ G
    | .bk σ G => .nx σ G
    | r => r) else .bad
def unlockS (l : Option (Nat × O)) (x : SO) : SO := match l with
  | none => x
  | some _ => match x with
    | .nx σ G => .nx σ (unlockG l G)
    | .ret r G => .ret r (unlockG l G)
    | _ => .bad
def forR (ik : Ik) (tg : List Nat) (run : Sl → Gp → SO) (xs : List R) (σ : Sl) (G : Gp) : SO :=
  match walk G ik xs with
    | some its => unlockS (lockOf G ik xs) (forL (fun x σ G => match bindT tg x σ with
      | some σ => run σ G
      | none => .bad) (chkW (xs.map (kindR G)) ik xs its) its (frzS xs σ) (lockG (lockOf G ik xs) G))
    | none => .bad
def whileL (c : Sl → Gp → EO Bool) (run : Sl → Gp → SO) : Nat → Sl → Gp → SO
  | 0, _, _ => .bad
  | n + 1, σ, G => (c σ G).so σ fun k G => if k then (match run σ G with
    | .nx σ G => whileL c run n σ G
    | .ct σ G => whileL c run n σ G
    | .bk σ G => .nx σ G
    | r => r) else .nx σ G
def turns : Nat := 100000
def excR (e : Option E) (σ : Sl) (G : Gp) (c : Nat) : SO := match e with
  | none => .exc c .non σ G
  | some e => (ev w e σ G).so σ fun r G => match r with
    | .val x => .exc c x σ G
    | _ => .bad
def ifL (k : EO Bool) (σ : Sl) (a b : Gp → SO) : SO := k.so σ fun k G => if k then a G else b G
def tryL (x : SO) (c : Nat) (nm : Option Nat) (h : Sl → Gp → SO) : SO := match x with
  | .exc k p σ G => if w.sup k c then (match nm with
      | none => h σ G
      | some i => match h (σ.set i (some (.exv k p))) G with
        | .nx σ G => .nx (σ.set i none) G
        | r => r) else .exc k p σ G
  | x => x
mutual
def exec : S → Sl → Gp → SO
  | .asg t e, σ, G => asgR w t e σ G
  | .asgT ts e, σ, G => (ev w e σ G).so σ fun r G => match seqOf G r with
    | some xs => stWs w ts xs σ G
    | none => .bad
  | .asgs ts es, σ, G => (evs w es σ G).so σ fun rs G => if noBrw rs then stRs w ts rs σ G else .bad
  | .ex e, σ, G => (ev w e σ G).so σ fun _ G => .nx σ G
  | .mut i m es, σ, G => mutR w i m es σ G
  | .ret e, σ, G => retE w e σ G
  | .retT es, σ, G => (evMs w es σ G).so σ fun p G => .ret (.val (.tup p.1)) G
  | .if_ c a b, σ, G => ifL (evC w (some c) σ G) σ (execs a σ) (execs b σ)
  | .for_ tg ik src body, σ, G => (evs w src σ G).so σ fun xs G => if lockS src G ik xs then forR ik tg (execs body) xs σ G else .bad
  | .while_ c body, σ, G => whileL (evC w (some c)) (execs body) turns σ G
  | .raise c e, σ, G => excR w e σ G c
  | .try_ b c nm h, σ, G => tryL w (execs b σ G) c nm (execs h)
  | .pass, σ, G => .nx σ G
  | .bad, _, _ => .bad
def execs : List S → Sl → Gp → SO
  | [], σ, G => .nx σ G
  | s :: r, σ, G => (exec s σ G).then (execs r)
end
end

/-- a program: its defs, the constants of its top, its classes -/
structure Pg where
  fn : Nat → Option Fd
  gl : Nat → Option R
  me : Nat → Nat → Option Nat
  ini : Nat → Option Nat
  sup : Nat → Nat → Bool
  fe : Nat → Nat → Bool
def Pg.wd (P : Pg) (cf cn : Nat → List R → Gp → FO) : Wd := ⟨P.gl, P.me, P.ini, P.sup, P.fe, cf, cn⟩
def SO.fo : SO → FO
  | .nx _ G => .ok (.val .non) G
  | .ret r G => .ok r G
  | .exc c w _ G => .exc c w G
  | _ => .bad
def startS (n : Nat) (rs : List R) : Sl := rs.map some ++ List.replicate (n - rs.length) none
def runF (P : Pg) (w : Wd) (f : Nat) (rs : List R) (G : Gp) : FO := match P.fn f with
  | none => .bad
  | some fd => if rs.length = fd.np then (execs w fd.body (startS fd.ns rs) G).fo else .bad
def run (P : Pg) : Nat → Nat → List R → Gp → FO
  | 0, _, _, _ => .bad
  | 1, f, rs, G => runF P (P.wd (fun _ _ _ => .bad) (fun _ _ _ => .bad)) f rs G
  | d + 2, f, rs, G => runF P (P.wd (run P (d + 1)) (run P d)) f rs G
theorem splitT_free {c : Nat} : ∀ {p : Tx}, c ∉ p → splitT c p = [p]
  | [], _ => rfl
  | x :: xs, h => by
    have h1 : x ≠ c := fun e => h (by rw [e]; exact List.mem_cons_self)
    have h2 : c ∉ xs := fun e => h (List.mem_cons_of_mem _ e)
    rw [splitT, if_neg h1, splitT_free h2]
theorem splitT_app {c : Nat} : ∀ {p : Tx} (q : Tx), c ∉ p → splitT c (p ++ c :: q) = p :: splitT c q
  | [], q, _ => by rw [List.nil_append, splitT, if_pos rfl]
  | x :: xs, q, h => by
    have h1 : x ≠ c := fun e => h (by rw [e]; exact List.mem_cons_self)
    have h2 : c ∉ xs := fun e => h (List.mem_cons_of_mem _ e)
    rw [List.cons_append, splitT, if_neg h1, splitT_app q h2]
/-- what is joined of pieces without the sign is cut into them -/
theorem splitT_join {c : Nat} : ∀ {ps : List Tx}, ps ≠ [] → (∀ p ∈ ps, c ∉ p) → splitT c (joinT [c] ps) = ps
  | [], h, _ => absurd rfl h
  | [p], _, h => splitT_free (h p List.mem_cons_self)
  | p :: q :: r, _, h => by
    show splitT c (p ++ [c] ++ joinT [c] (q :: r)) = _
    rw [List.append_assoc, List.singleton_append, splitT_app _ (h p List.mem_cons_self), splitT_join (by simp) fun x hx => h x (List.mem_cons_of_mem _ hx)]
end Mi
/-! what Mini's values and objects stand for in the layer's heap -/
namespace Mi
open PySem PySem.Spec PyProof.Rows L2

/-- the written part, and the world -/
structure Kw where
  K : PySem.W.Frag
  w : World

/-- where the shared objects stand; true: an object of the written part -/
abbrev Mu := List (Bool × Addr)

def tS (s : Tx) : Str := ⟨s.toArray⟩
theorem tS_inj {a b : Tx} (h : tS a = tS b) : a = b := by
  unfold tS at h
  have := Str.mk.inj h
  simpa using congrArg Array.toList this
def tOk (s : Tx) : Prop := ∀ c ∈ s, c < 1114112
theorem tS_toList (s : Tx) : (tS s).cps.toList = s := by simp [tS]
theorem tS_length (s : Tx) : (tS s).length = s.length := by simp [tS, Str.length]
theorem tS_append (a b : Tx) : tS a ++ tS b = tS (a ++ b) := by
  show (⟨(tS a).cps ++ (tS b).cps⟩ : Str) = _
  simp [tS]

mutual
inductive Den (K : Kw) (μ : Mu) (H : Hp) : W → V → Prop
  | non : Den K μ H .non .non
  | bl (b : Bool) : Den K μ H (.bl b) (.bl b)
  | int (i : Int) : Den K μ H (.int i) (.int i)
  | str (s : Tx) : tOk s → Den K μ H (.str s) (.str (tS s))
  | ref {i : Nat} {a : Addr} {k : Bool} : μ[i]? = some (k, a) → Den K μ H (.ref i) (.ref a)
  | tup {a : Addr} {ws : List W} {vs : List V} : SqT K.K H a vs → Dens K μ H ws vs → Den K μ H (.tup ws) (.ref a)
inductive Dens (K : Kw) (μ : Mu) (H : Hp) : List W → List V → Prop
  | nil : Dens K μ H [] []
  | cons {w : W} {ws : List W} {v : V} {vs : List V} : Den K μ H w v → Dens K μ H ws vs → Dens K μ H (w :: ws) (v :: vs)
end

section
variable {K : Kw} {μ μ' : Mu} {H H' : Hp}
/-- tuples stay, more objects are shared -/
structure Gro (K : Kw) (μ : Mu) (H : Hp) (μ' : Mu) (H' : Hp) : Prop where
  pre : ∀ (i : Nat) (a : Bool × Addr), μ[i]? = some a → μ'[i]? = some a
  tup : ∀ (a : Addr) (xs : List V), SqT K.K H a xs → SqT K.K H' a xs
mutual
theorem Den.mono (g : Gro K μ H μ' H') : ∀ {w : W} {v : V}, Den K μ H w v → Den K μ' H' w v
  | _, _, .non => .non
  | _, _, .bl b => .bl b
  | _, _, .int i => .int i
  | _, _, .str s h => .str s h
  | _, _, .ref h => .ref (g.pre _ _ h)
  | _, _, .tup h d => .tup (g.tup _ _ h) (Dens.mono g d)
theorem Dens.mono (g : Gro K μ H μ' H') : ∀ {ws : List W} {vs : List V}, Dens K μ H ws vs → Dens K μ' H' ws vs
  | _, _, .nil => .nil
  | _, _, .cons d r => .cons (Den.mono g d) (Dens.mono g r)
end
theorem Dens.length : ∀ {ws : List W} {vs : List V}, Dens K μ H ws vs → ws.length = vs.length
  | _, _, .nil => rfl
  | _, _, .cons _ r => by simp [Dens.length r]
theorem Dens.get : ∀ {ws : List W} {vs : List V} {i : Nat} {w : W}, Dens K μ H ws vs → ws[i]? = some w → ∃ v, vs[i]? = some v ∧ Den K μ H w v
  | _, _, i, w, .nil, h => by simp at h
  | _, _, 0, w, .cons d r, h => by simp at h; subst h; exact ⟨_, rfl, d⟩
  | _, _, i + 1, w, .cons d r, h => by
    obtain ⟨v, h1, h2⟩ := Dens.get (i := i) (w := w) r (by simpa using h)
    exact ⟨v, by simpa using h1, h2⟩
theorem Dens.append : ∀ {ws ws' : List W} {vs vs' : List V}, Dens K μ H ws vs → Dens K μ H ws' vs' → Dens K μ H (ws ++ ws') (vs ++ vs')
  | _, _, _, _, .nil, s => s
  | _, _, _, _, .cons d r, s => .cons d (Dens.append r s)
theorem Dens.take : ∀ {ws : List W} {vs : List V} (n : Nat), Dens K μ H ws vs → Dens K μ H (ws.take n) (vs.take n)
  | _, _, 0, _ => .nil
  | _, _, _ + 1, .nil => .nil
  | _, _, n + 1, .cons d r => .cons d (Dens.take n r)
theorem Dens.drop : ∀ {ws : List W} {vs : List V} (n : Nat), Dens K μ H ws vs → Dens K μ H (ws.drop n) (vs.drop n)
  | _, _, 0, r => r
  | _, _, _ + 1, .nil => .nil
  | _, _, n + 1, .cons d r => Dens.drop n r
theorem Dens.set {w : W} {v : V} (d : Den K μ H w v) : ∀ {ws : List W} {vs : List V} (n : Nat), Dens K μ H ws vs → Dens K μ H (ws.set n w) (vs.set n v)
  | _, _, _, .nil => .nil
  | _, _, 0, .cons _ r => .cons d r
  | _, _, n + 1, .cons e r => .cons e (Dens.set d n r)
theorem Dens.reverse : ∀ {ws : List W} {vs : List V}, Dens K μ H ws vs → Dens K μ H ws.reverse vs.reverse
  | _, _, .nil => .nil
  | _, _, .cons d r => by rw [List.reverse_cons, List.reverse_cons]; exact Dens.append (Dens.reverse r) (.cons d .nil)
theorem Dens.eraseIdx : ∀ {ws : List W} {vs : List V} (n : Nat), Dens K μ H ws vs → Dens K μ H (ws.eraseIdx n) (vs.eraseIdx n)
  | _, _, _, .nil => .nil
  | _, _, 0, .cons _ r => r
  | _, _, n + 1, .cons e r => .cons e (Dens.eraseIdx n r)
theorem Dens.flatRep {ws : List W} {vs : List V} (d : Dens K μ H ws vs) : ∀ n : Nat, Dens K μ H (List.replicate n ws).flatten (List.replicate n vs).flatten
  | 0 => .nil
  | n + 1 => by
    rw [List.replicate_succ, List.replicate_succ, List.flatten_cons, List.flatten_cons]
    exact Dens.append d (Dens.flatRep d n)
theorem Dens.intsW : ∀ is : List Int, Dens K μ H (is.map .int) (is.map .int)
  | [] => .nil
  | i :: r => .cons (.int i) (Dens.intsW r)
theorem Dens.strsW : ∀ ss : List Tx, (∀ s ∈ ss, tOk s) → Dens K μ H (ss.map .str) ((ss.map tS).map .str)
  | [], _ => .nil
  | i :: r, h => .cons (.str i (h i List.mem_cons_self)) (Dens.strsW r fun s q => h s (List.mem_cons_of_mem _ q))
theorem Den.strI {s : Tx} {v : V} (h : Den K μ H (.str s) v) : v = .str (tS s) := by cases h; rfl
theorem Den.strO {s : Tx} {v : V} (h : Den K μ H (.str s) v) : tOk s := by cases h; assumption
theorem Den.intI {s : Int} {v : V} (h : Den K μ H (.int s) v) : v = .int s := by cases h; rfl
theorem Den.blI {s : Bool} {v : V} (h : Den K μ H (.bl s) v) : v = .bl s := by cases h; rfl
theorem Den.nonI {v : V} (h : Den K μ H .non v) : v = .non := by cases h; rfl
theorem Dens.strsO : ∀ {xs : List W} {ss : List Tx} {vs : List V}, Mi.strsW xs = some ss → Dens K μ H xs vs → ∀ s ∈ ss, tOk s
  | [], ss, vs, h, d => by simp [Mi.strsW] at h; subst h; intro s q; cases q
  | w :: xs, ss, vs, h, d => by
    cases d with
    | cons d r =>
      cases w with
      | str s =>
        simp only [Mi.strsW, Option.map_eq_some_iff] at h
        obtain ⟨t, h, e⟩ := h
        subst e
        intro x hx
        rcases List.mem_cons.mp hx with rfl | hx
        · exact d.strO
        · exact Dens.strsO h r x hx
      | _ => simp [Mi.strsW] at h
theorem Dens.strsI : ∀ {xs : List W} {ss : List Tx} {vs : List V}, Mi.strsW xs = some ss → Dens K μ H xs vs → vs = (ss.map tS).map .str
  | [], ss, vs, h, d => by cases d; simp [Mi.strsW] at h; subst h; rfl
  | w :: xs, ss, vs, h, d => by
    cases d with
    | cons d r =>
      cases w with
      | str s =>
        simp only [Mi.strsW, Option.map_eq_some_iff] at h
        obtain ⟨t, h, e⟩ := h
        subst e
        rw [Dens.strsI h r, d.strI]; rfl
      | _ => simp [Mi.strsW] at h
theorem Dens.intsI : ∀ {xs : List W} {ss : List Int} {vs : List V}, Mi.intsW xs = some ss → Dens K μ H xs vs → vs = ss.map .int
  | [], ss, vs, h, d => by cases d; simp [Mi.intsW] at h; subst h; rfl
  | w :: xs, ss, vs, h, d => by
    cases d with
    | cons d r =>
      cases w with
      | int s =>
        simp only [Mi.intsW, Option.map_eq_some_iff] at h
        obtain ⟨t, h, e⟩ := h
        subst e
        rw [Dens.intsI h r, d.intI]; rfl
      | _ => simp [Mi.intsW] at h

/-! ### objects -/
/-- a dict's key -/
def keyD : W → Key → Prop
  | .int i, k => k = .inl i
  | .str s, k => k = .inr (tS s) ∧ tOk s
  | _, _ => False
inductive DenKV (K : Kw) (μ : Mu) (H : Hp) : List (W × W) → List (Key × V) → Prop
  | nil : DenKV K μ H [] []
  | cons {k w : W} {kk : Key} {v : V} {r : List (W × W)} {rv : List (Key × V)} : keyD k kk → Den K μ H w v → DenKV K μ H r rv → DenKV K μ H ((k, w) :: r) ((kk, v) :: rv)
theorem DenKV.mono (g : Gro K μ H μ' H') : ∀ {ws : List (W × W)} {vs : List (Key × V)}, DenKV K μ H ws vs → DenKV K μ' H' ws vs
  | _, _, .nil => .nil
  | _, _, .cons k d r => .cons k (Den.mono g d) (DenKV.mono g r)
/-- what stands at an address, of a container -/
inductive OD (K : Kw) (μ : Mu) (H : Hp) : O → HO → Prop
  | lst {ws : List W} {vs : List V} : Dens K μ H ws vs → OD K μ H (.lst ws) (.lst vs)
  | dct {ws : List (W × W)} {vs : List (Key × V)} : DenKV K μ H ws vs → OD K μ H (.dct ws) (.dK vs)
theorem OD.mono (g : Gro K μ H μ' H') {o : O} {u : HO} (h : OD K μ H o u) : OD K μ' H' o u := by
  cases h with
  | lst d => exact .lst (d.mono g)
  | dct d => exact .dct (d.mono g)

/-- a list, a dict of the written part -/
def KL (K : Kw) (μ : Mu) (H : Hp) : O → Addr → Prop
  | .lst ws, a => ∃ vs, (∃ (o : Obj) (its : Array Value) (n : Nat), K.K.lookup a = some o ∧ o.cls = .type "list" ∧ o.dict = none ∧ o.data = .seq its n ∧ its.size ≤ sizeLine ∧ Vals vs its.toList) ∧ Dens K μ H ws vs
  | .dct _, _ => False
def KD (K : Kw) (μ : Mu) (H : Hp) : O → Addr → Prop
  | .lst _, _ => False
  | .dct kvs, a => ∃ (es : Array DictEntry) (n : Nat), L2.KDict K.K K.w a es n ∧ ∀ (s : Tx) , ∃ r, PySem.W.nsIn K.K a (tS s) = some r ∧ match kvs.lookup (.str s) with
    | some x => ∃ v u, r = some u ∧ RelV v u ∧ Den K μ H x v
    | none => r = none
theorem KL.mono (g : Gro K μ H μ' H') {o : O} {a : Addr} (h : KL K μ H o a) : KL K μ' H' o a := by
  cases o with
  | lst ws => obtain ⟨vs, h1, h2⟩ := h; exact ⟨vs, h1, h2.mono g⟩
  | dct kvs => exact h
theorem KD.mono (g : Gro K μ H μ' H') {o : O} {a : Addr} (h : KD K μ H o a) : KD K μ' H' o a := by
  cases o with
  | lst ws => exact h
  | dct kvs =>
    obtain ⟨es, n, h1, h2⟩ := h
    refine ⟨es, n, h1, fun s => ?_⟩
    obtain ⟨r, e, q⟩ := h2 s
    refine ⟨r, e, ?_⟩
    revert q
    cases kvs.lookup (.str s) with
    | none => exact fun q => q
    | some x => exact fun ⟨v, u, a, b, c⟩ => ⟨v, u, a, b, c.mono g⟩
/-- a container that is read -/
def OR (K : Kw) (μ : Mu) (H : Hp) (o : O) (a : Addr) : Prop := (∃ u, Rd H a u ∧ OD K μ H o u) ∨ KD K μ H o a ∨ KL K μ H o a
/-- a list stands there, a dict stands there, perhaps locked -/
def Rx (o : O) (H : Hp) (a : Addr) (u : HO) : Prop := match o with
  | .lst _ => H a = some u
  | .dct _ => Rd H a u
theorem Rx.rd {o : O} {H : Hp} {a : Addr} {u : HO} (h : Rx o H a u) : Rd H a u := by
  cases o with
  | lst _ => exact .inl h
  | dct _ => exact h
/-- what an expression's value stands for; B: the addresses of what slots hold, H0: the heap ahead of the expression -/
def RD (K : Kw) (B : Kd → Addr → Prop) (H0 : Hp) (μ : Mu) (H : Hp) : R → V → Prop
  | .val w, v => Den K μ H w v
  | .obj .own o, v => ∃ a u, v = .ref a ∧ H a = some u ∧ OD K μ H o u ∧ (false, a) ∉ μ ∧ H0 a = none
  | .obj .top o, v => ∃ a, v = .ref a ∧ KD K μ H o a
  | .obj k o, v => ∃ a, v = .ref a ∧ ∃ u, Rx o H a u ∧ OD K μ H o u ∧ (false, a) ∉ μ ∧ B k a
  | .exv _ _, _ => False
/-- what a slot stands for -/
def SD (K : Kw) (μ : Mu) (H : Hp) : R → V → Prop
  | .val w, v => Den K μ H w v
  | .obj .top _, _ => False
  | .obj (.brw _) _, _ => False
  | .obj _ o, v => ∃ a, v = .ref a ∧ ∃ u, Rx o H a u ∧ OD K μ H o u ∧ (false, a) ∉ μ
  | .exv _ _, _ => False
end

/-- what is known of a text's names: NT the names by number, ca the classes' addresses -/
structure Tb where
  NT : List Str
  ca : Nat → Addr
inductive FD (T : Tb) (K : Kw) (μ : Mu) (H : Hp) : List (Nat × W) → List (Str × V) → Prop
  | nil : FD T K μ H [] []
  | cons {f : Nat} {s : Str} {w : W} {v : V} {r : List (Nat × W)} {rv : List (Str × V)} : T.NT[f]? = some s → Den K μ H w v → FD T K μ H r rv → FD T K μ H ((f, w) :: r) ((s, v) :: rv)
def GD (T : Tb) (K : Kw) (μ : Mu) (H : Hp) : GO → Bool × Addr → Prop
  | .obj o, (false, a) => ∃ u, H a = some u ∧ OD K μ H o u
  | .frz o, (false, a) => ∃ u, Rd H a u ∧ OD K μ H o u
  | .ins c fs, (false, a) => ∃ dx fv, H a = some (.ins (T.ca c) dx fv) ∧ FD T K μ H fs fv
  | .frz o, (true, a) => KL K μ H o a
  | _, _ => False
structure RepG (T : Tb) (K : Kw) (μ : Mu) (G : Gp) (H : Hp) : Prop where
  len : μ.length = G.length
  nd : ∀ (i j : Nat) (a : Addr), μ[i]? = some (false, a) → μ[j]? = some (false, a) → i = j
  ob : ∀ (i : Nat) (g : GO) (a : Bool × Addr), G[i]? = some g → μ[i]? = some a → GD T K μ H g a
/-- the slots, for an expression -/
structure RepE (K : Kw) (μ : Mu) (σ : Sl) (σv : L2.St) (H : Hp) : Prop where
  len : σ.length = σv.length
  sl : ∀ (i : Nat) (r : R), σ[i]? = some (some r) → ∃ v, σv[i]? = some (some v) ∧ SD K μ H r v
structure Ext (K : Kw) (μ : Mu) (H : Hp) (μ' : Mu) (H' : Hp) : Prop where
  pre : ∀ (i : Nat) (a : Bool × Addr), μ[i]? = some a → μ'[i]? = some a
  new : ∀ a, (false, a) ∈ μ' → (false, a) ∉ μ → H a = none
  keep : ∀ a o, H a = some o → (false, a) ∉ μ → H' a = some o
  tup : ∀ (a : Addr) (xs : List V), SqT K.K H a xs → SqT K.K H' a xs
  grow : ∀ a, H' a = none → H a = none
  frz : ∀ a o u, H a = some (.frz o u) → H' a = some (.frz o u)
section
variable {T : Tb} {K : Kw} {μ μ' μ1 μ2 : Mu} {H H' H1 H2 H0 : Hp} {G : Gp} {B : Kd → Addr → Prop}
theorem Ext.gro (e : Ext K μ H μ' H') : Gro K μ H μ' H' := ⟨e.pre, e.tup⟩
theorem Ext.refl : Ext K μ H μ H := ⟨fun _ _ h => h, fun _ h n => absurd h n, fun _ _ h _ => h, fun _ _ h => h, fun _ h => h, fun _ _ _ h => h⟩
theorem Ext.nin (e : Ext K μ H μ1 H1) {a : Addr} {o : HO} (h : H a = some o) (n : (false, a) ∉ μ) : (false, a) ∉ μ1 := fun q => by
  have := e.new a q n
  rw [h] at this; cases this
theorem Ext.trans (a : Ext K μ H μ1 H1) (b : Ext K μ1 H1 μ2 H2) : Ext K μ H μ2 H2 where
  pre := fun i x h => b.pre i x (a.pre i x h)
  new := fun x h n => by
    by_cases q : (false, x) ∈ μ1
    · exact a.new x q n
    · exact a.grow x (b.new x h q)
  keep := fun x o h n => b.keep x o (a.keep x o h n) (a.nin h n)
  tup := fun x xs h => b.tup x xs (a.tup x xs h)
  grow := fun x h => a.grow x (b.grow x h)
  frz := fun x o u h => b.frz x o u (a.frz x o u h)
theorem Rd.some {a : Addr} {u : HO} (h : Rd H a u) : ∃ o, H a = some o := by
  rcases h with h | ⟨o, h⟩ <;> exact ⟨_, h⟩
theorem Ext.rd (e : Ext K μ H μ' H') {a : Addr} {u : HO} (h : Rd H a u) (n : (false, a) ∉ μ) : Rd H' a u := by
  rcases h with h | ⟨o, h⟩
  · exact .inl (e.keep _ _ h n)
  · exact .inr ⟨o, e.keep _ _ h n⟩
theorem Ext.rx (e : Ext K μ H μ' H') {o : O} {a : Addr} {u : HO} (h : Rx o H a u) (n : (false, a) ∉ μ) : Rx o H' a u := by
  cases o with
  | lst _ => exact e.keep _ _ h n
  | dct _ => exact e.rd h n
theorem Ext.nrx (e : Ext K μ H μ' H') {o : O} {a : Addr} {u : HO} (h : Rx o H a u) (n : (false, a) ∉ μ) : (false, a) ∉ μ' := by
  obtain ⟨o, q⟩ := Rd.some h.rd
  exact e.nin q n
theorem SD.ext (e : Ext K μ H μ' H') {r : R} {v : V} (h : SD K μ H r v) : SD K μ' H' r v := by
  cases r with
  | val w => exact Den.mono e.gro h
  | exv _ _ => exact h
  | obj k o =>
    cases k with
    | top => exact h
    | own => obtain ⟨a, e1, u, h1, h2, h3⟩ := h; exact ⟨a, e1, u, e.rx h1 h3, h2.mono e.gro, e.nrx h1 h3⟩
    | brw => exact h
    | frz => obtain ⟨a, e1, u, h1, h2, h3⟩ := h; exact ⟨a, e1, u, e.rx h1 h3, h2.mono e.gro, e.nrx h1 h3⟩
theorem RD.ext (e : Ext K μ H μ' H') {r : R} {v : V} (h : RD K B H0 μ H r v) : RD K B H0 μ' H' r v := by
  cases r with
  | val w => exact Den.mono e.gro h
  | exv _ _ => exact h
  | obj k o =>
    cases k with
    | top => obtain ⟨a, e1, h⟩ := h; exact ⟨a, e1, h.mono e.gro⟩
    | own => obtain ⟨a, u, e1, h1, h2, h3, h4⟩ := h; exact ⟨a, u, e1, e.keep _ _ h1 h3, h2.mono e.gro, e.nin h1 h3, h4⟩
    | brw => obtain ⟨a, e1, u, h1, h2, h3, h4⟩ := h; exact ⟨a, e1, u, e.rx h1 h3, h2.mono e.gro, e.nrx h1 h3, h4⟩
    | frz => obtain ⟨a, e1, u, h1, h2, h3, h4⟩ := h; exact ⟨a, e1, u, e.rx h1 h3, h2.mono e.gro, e.nrx h1 h3, h4⟩
/-- reckoned from an earlier heap -/
theorem RD.back (e : Ext K μ H0 μ1 H1) {r : R} {v : V} (h : RD K B H1 μ' H' r v) : RD K B H0 μ' H' r v := by
  cases r with
  | val w => exact h
  | exv _ _ => exact h
  | obj k o =>
    cases k with
    | own => obtain ⟨a, u, e1, h1, h2, h3, h4⟩ := h; exact ⟨a, u, e1, h1, h2, h3, e.grow _ h4⟩
    | top => exact h
    | brw => exact h
    | frz => exact h
theorem RepE.ext {σ : Sl} {σv : L2.St} (h : RepE K μ σ σv H) (e : Ext K μ H μ' H') : RepE K μ' σ σv H' := ⟨h.len, fun i r q =>
  let ⟨v, a, b⟩ := h.sl i r q
  ⟨v, a, b.ext e⟩⟩
theorem GD.or {g : GO} {k : Bool} {a : Addr} {o : O} (q : GD T K μ H g (k, a)) (c : g = .obj o ∨ g = .frz o) : OR K μ H o a := by
  rcases c with rfl | rfl <;> cases k
  · obtain ⟨u, h1, h2⟩ := q; exact .inl ⟨u, .inl h1, h2⟩
  · exact q.elim
  · obtain ⟨u, h1, h2⟩ := q; exact .inl ⟨u, h1, h2⟩
  · exact .inr (.inr q)
theorem RepG.at_ (g : RepG T K μ G H) {i : Nat} {v : V} (d : Den K μ H (.ref i) v) : ∃ k a, v = .ref a ∧ μ[i]? = some (k, a) ∧ ∀ go, G[i]? = some go → GD T K μ H go (k, a) := by
  cases d with
  | ref hi => exact ⟨_, _, rfl, hi, fun go hg => g.ob _ _ _ hg hi⟩
/-- the container that a value stands for -/
theorem RD.content (g : RepG T K μ G H) {r : R} {v : V} {o : O} (h : RD K B H0 μ H r v) (c : content G r = some o) : ∃ a, v = .ref a ∧ OR K μ H o a := by
  match r, h, c with
  | .val (.ref i), h, c =>
    obtain ⟨k, a, rfl, hi, q⟩ := g.at_ h
    refine ⟨a, rfl, ?_⟩
    simp only [Mi.content] at c
    cases hg : G[i]? with
    | none => rw [hg] at c; cases c
    | some go =>
      rw [hg] at c
      cases go with
      | obj o' => cases c; exact (q _ hg).or (.inl rfl)
      | frz o' => cases c; exact (q _ hg).or (.inr rfl)
      | ins _ _ => cases c
  | .obj .own o', ⟨a, u, e1, h1, h2, _⟩, c => cases c; exact ⟨a, e1, .inl ⟨u, .inl h1, h2⟩⟩
  | .obj (.brw _) o', ⟨a, e1, u, h1, h2, _⟩, c => cases c; exact ⟨a, e1, .inl ⟨u, h1.rd, h2⟩⟩
  | .obj .frz o', ⟨a, e1, u, h1, h2, _⟩, c => cases c; exact ⟨a, e1, .inl ⟨u, h1.rd, h2⟩⟩
  | .obj .top o', ⟨a, e1, h⟩, c => cases c; exact ⟨a, e1, .inr (.inl h)⟩
theorem OD.lstI {ws : List W} {u : HO} {v : V} {a : Addr} (h : OD K μ H (.lst ws) u) (e : v = .ref a) (q : H a = some u) : ∃ a vs, v = .ref a ∧ H a = some (.lst vs) ∧ Dens K μ H ws vs := by
  cases h with
  | lst d => exact ⟨a, _, e, q, d⟩
/-- a list that is not locked -/
theorem RD.contentU (g : RepG T K μ G H) {r : R} {v : V} {ws : List W} (h : RD K B H0 μ H r v) (c : contentU G r = some (.lst ws)) : ∃ a vs, v = .ref a ∧ H a = some (.lst vs) ∧ Dens K μ H ws vs := by
  cases r with
  | val w =>
    cases w with
    | ref i =>
      have h' : Den K μ H (.ref i) v := h
      obtain ⟨k, a, rfl, hi, q⟩ := g.at_ h'
      simp only [Mi.contentU] at c
      cases hg : G[i]? with
      | none => rw [hg] at c; cases c
      | some go =>
        rw [hg] at c
        cases go with
        | obj o' =>
          have c' : o' = .lst ws := Option.some.inj c
          subst c'
          have q' := q _ hg
          cases k with
          | false =>
            obtain ⟨u, h1, h2⟩ := q'
            exact h2.lstI rfl h1
          | true => exact q'.elim
        | frz o' => cases c
        | ins _ _ => cases c
    | non => cases c
    | bl _ => cases c
    | int _ => cases c
    | str _ => cases c
    | tup _ => cases c
  | obj k o =>
    have c' : o = .lst ws := Option.some.inj c
    subst c'
    cases k with
    | own =>
      obtain ⟨a, u, e1, h1, h2, _⟩ := h
      exact h2.lstI e1 h1
    | brw =>
      obtain ⟨a, e1, u, h1, h2, _⟩ := h
      exact h2.lstI e1 h1
    | frz =>
      obtain ⟨a, e1, u, h1, h2, _⟩ := h
      exact h2.lstI e1 h1
    | top => exact h.elim fun a h => h.2.elim
  | exv _ _ => cases c
theorem OD.dctI {ws : List (W × W)} {u : HO} {v : V} {a : Addr} (h : OD K μ H (.dct ws) u) (e : v = .ref a) (q : Rd H a u) : ∃ a ks, v = .ref a ∧ Rd H a (.dK ks) ∧ DenKV K μ H ws ks := by
  cases h with
  | dct d => exact ⟨a, _, e, q, d⟩
/-- a dict that is none of the top -/
theorem RD.dict (g : RepG T K μ G H) {r : R} {v : V} {ws : List (W × W)} (h : RD K B H0 μ H r v) (c : Mi.content G r = some (.dct ws)) (hr : ∀ o, r ≠ .obj .top o) : ∃ a ks, v = .ref a ∧ Rd H a (.dK ks) ∧ DenKV K μ H ws ks := by
  cases r with
  | val w =>
    cases w with
    | ref i =>
      have h' : Den K μ H (.ref i) v := h
      obtain ⟨k, a, rfl, hi, q⟩ := g.at_ h'
      simp only [Mi.content] at c
      cases hg : G[i]? with
      | none => rw [hg] at c; cases c
      | some go =>
        rw [hg] at c
        have q' := q _ hg
        cases go with
        | obj o' =>
          have c' : o' = .dct ws := Option.some.inj c
          subst c'
          cases k with
          | false =>
            obtain ⟨u, h1, h2⟩ := q'
            exact h2.dctI rfl (.inl h1)
          | true => exact q'.elim
        | frz o' =>
          have c' : o' = .dct ws := Option.some.inj c
          subst c'
          cases k with
          | false =>
            obtain ⟨u, h1, h2⟩ := q'
            exact h2.dctI rfl h1
          | true => exact q'.elim
        | ins _ _ => cases c
    | non => cases c
    | bl _ => cases c
    | int _ => cases c
    | str _ => cases c
    | tup _ => cases c
  | obj k o =>
    have c' : o = .dct ws := Option.some.inj c
    subst c'
    cases k with
    | own =>
      obtain ⟨a, u, e1, h1, h2, _⟩ := h
      exact h2.dctI e1 (.inl h1)
    | brw =>
      obtain ⟨a, e1, u, h1, h2, _⟩ := h
      exact h2.dctI e1 h1
    | frz =>
      obtain ⟨a, e1, u, h1, h2, _⟩ := h
      exact h2.dctI e1 h1
    | top => exact absurd rfl (hr _)
  | exv _ _ => cases c
theorem OR.lst {ws : List W} {a : Addr} (h : OR K μ H (.lst ws) a) : ∃ vs, SqL K.K H a vs ∧ Dens K μ H ws vs := by
  rcases h with ⟨u, h1, h2⟩ | h | ⟨vs, h1, h2⟩
  · cases h2 with
    | lst d => exact ⟨_, .inl h1, d⟩
  · exact h.elim
  · exact ⟨vs, .inr h1, h2⟩
theorem RD.val {w : W} {v : V} (h : RD K B H0 μ H (.val w) v) : Den K μ H w v := h
theorem RepG.tracked (g : RepG T K μ G H) {a : Addr} (h : (false, a) ∈ μ) : ∃ o, H a = some o := by
  obtain ⟨i, hi, e⟩ := List.mem_iff_getElem.mp h
  have hG : i < G.length := g.len ▸ hi
  have q := g.ob i G[i] (false, a) (List.getElem?_eq_getElem hG) (by rw [List.getElem?_eq_getElem hi, e])
  revert q
  cases G[i] with
  | obj o => exact fun ⟨u, h, _⟩ => ⟨_, h⟩
  | frz o => exact fun ⟨u, h, _⟩ => Rd.some h
  | ins c fs => exact fun ⟨_, _, h, _⟩ => ⟨_, h⟩
theorem FD.mono (g : Gro K μ H μ' H') : ∀ {ws : List (Nat × W)} {vs : List (Str × V)}, FD T K μ H ws vs → FD T K μ' H' ws vs
  | _, _, .nil => .nil
  | _, _, .cons k d r => .cons k (Den.mono g d) (FD.mono g r)
/-- where all shared objects are kept -/
theorem RepG.keep (g : RepG T K μ G H) (gr : Gro K μ H μ H') (k : ∀ a o, (false, a) ∈ μ → H a = some o → H' a = some o) : RepG T K μ G H' := by
  refine ⟨g.len, g.nd, fun i go a hg hi => ?_⟩
  have q := g.ob i go a hg hi
  obtain ⟨b, a⟩ := a
  cases b with
  | false =>
    have hm : (false, a) ∈ μ := List.mem_of_getElem? hi
    cases go with
    | obj o => obtain ⟨u, h1, h2⟩ := q; exact ⟨u, k _ _ hm h1, h2.mono gr⟩
    | frz o =>
      obtain ⟨u, h1, h2⟩ := q
      refine ⟨u, ?_, h2.mono gr⟩
      rcases h1 with h | ⟨ob, h⟩
      · exact .inl (k _ _ hm h)
      · exact .inr ⟨ob, k _ _ hm h⟩
    | ins c fs => obtain ⟨dx, fv, h1, h2⟩ := q; exact ⟨dx, fv, k _ _ hm h1, h2.mono gr⟩
  | true =>
    cases go with
    | obj o => exact q
    | frz o => exact KL.mono gr q
    | ins c fs => exact q
/-- a new object -/
theorem Ext.laid {p : Addr} {u : HO} (h : H p = none) : Ext K μ H μ (upd H p u) := by
  have ne : ∀ a o, H a = some o → a ≠ p := fun a o e => ne_of_none e h
  refine ⟨fun _ _ h => h, fun a h n => absurd h n, fun a o e _ => by rw [upd_ne (ne a o e)]; exact e, fun a xs q => ?_, fun a q => ?_, fun a o u e => by rw [upd_ne (ne a _ e)]; exact e⟩
  · rcases q with q | q
    · refine .inl ?_
      rcases q with q | ⟨o, q⟩
      · exact .inl (by rw [upd_ne (ne a _ q)]; exact q)
      · exact .inr ⟨o, by rw [upd_ne (ne a _ q)]; exact q⟩
    · exact .inr q
  · by_cases e : a = p
    · subst e; exact h
    · rw [upd_ne e] at q; exact q
theorem RepG.laid (g : RepG T K μ G H) {p : Addr} {u : HO} (h : H p = none) : RepG T K μ G (upd H p u) :=
  g.keep (Ext.laid h).gro fun a o _ e => by rw [upd_ne (ne_of_none e h)]; exact e
theorem RepG.fresh (g : RepG T K μ G H) {p : Addr} (h : H p = none) : (false, p) ∉ μ := fun q => by
  obtain ⟨o, e⟩ := g.tracked q
  rw [h] at e; cases e
/-- a new list, a new tuple as values -/
theorem RD.newL (g : RepG T K μ G H) {p : Addr} {ws : List W} {vs : List V} (h : H p = none) (d : Dens K μ H ws vs) : RD K B H μ (upd H p (.lst vs)) (.obj .own (.lst ws)) (.ref p) :=
  ⟨p, _, rfl, upd_same, .lst (d.mono (Ext.laid h).gro), g.fresh h, h⟩
theorem RD.newT {p : Addr} {ws : List W} {vs : List V} (h : H p = none) (d : Dens K μ H ws vs) : RD K B H0 μ (upd H p (.tup vs)) (.val (.tup ws)) (.ref p) :=
  .tup (.inl (.inl upd_same)) (d.mono (Ext.laid h).gro)
theorem Den.tupI {ws : List W} {v : V} (h : Den K μ H (.tup ws) v) : ∃ a vs, v = .ref a ∧ SqT K.K H a vs ∧ Dens K μ H ws vs := by
  cases h with
  | tup h d => exact ⟨_, _, rfl, h, d⟩
end
end Mi
/-! the operators -/
namespace Mi
open PySem PySem.Spec PyProof.Rows L2

abbrev Kx (X : Cx) : Kw := ⟨X.K, X.w⟩
def bopOf : Bop → Operator
  | .add => .Add | .sub => .Sub | .mul => .Mult | .mod => .Mod | .fdiv => .FloorDiv | .pow => .Pow
/-- what is wanted of a value that comes, the shared objects as they are -/
def Res (T : Tb) (X : Cx) (B : Kd → Addr → Prop) (μ : Mu) (G : Gp) (H : Hp) (r : R) (Q : VK) : Prop :=
  ∀ μ' H' v, Ext (Kx X) μ H μ' H' → RepG T (Kx X) μ' G H' → RD (Kx X) B H μ' H' r v → Q v H'
section
variable {T : Tb} {X : Cx} {B : Kd → Addr → Prop} {μ : Mu} {G : Gp} {H H0 : Hp} {Q : VK}
theorem Res.val {w : W} {v : V} (q : Res T X B μ G H (.val w) Q) (g : RepG T (Kx X) μ G H) (d : Den (Kx X) μ H w v) : Q v H := q μ H v Ext.refl g d
theorem tOk.append {a b : Tx} (h1 : tOk a) (h2 : tOk b) : tOk (a ++ b) := fun c hc => (List.mem_append.mp hc).elim (h1 c) (h2 c)
theorem small_def {i : Int} (h : Mi.small i = true) : -4611686018427387904 < i ∧ i < 4611686018427387904 := (Mi.small_iff i).mp h
theorem sizeL_eq : Mi.sizeL = sizeLine := by rw [sizeLine_eq]; rfl
theorem Dens.ne_nil {K : Kw} {ws : List W} {vs : List V} (d : Dens K μ H ws vs) : ws = [] ↔ vs = [] := by
  cases d <;> simp
/-- the operator's reading -/
def rBin (T : Tb) (X : Cx) (op : Bop) : R2 := fun v1 v2 H Q => ∃ B H0 H0' μ G x y r, RepG T (Kx X) μ G H ∧ RD (Kx X) B H0 μ H x v1 ∧ RD (Kx X) B H0' μ H y v2 ∧ binR op G x y = some r ∧ Res T X B μ G H r Q
theorem sem_bin (op : Bop) : OpR X (binaryOp (bopOf op)) (rBin T X op) := by
  intro pins s σ H v1 v2 u1 u2 Q I r1 r2 h
  obtain ⟨B, H0, H0', μ, G, x, y, r, g, d1, d2, hb, res⟩ := h
  cases op with
  | add =>
    simp only [binR] at hb
    split at hb
    · have e1 := d1.val.intI; have e2 := d2.val.intI
      have e3 := Option.some.inj hb; subst e3
      exact op_add pins s σ H v1 v2 u1 u2 Q I r1 r2 ⟨_, _, e1, e2, res.val g (.int _)⟩
    · have e1 := d1.val.strI; have e2 := d2.val.strI
      split at hb
      · rename_i hz
        have e3 := Option.some.inj hb; subst e3
        exact op_add_str pins s σ H v1 v2 u1 u2 Q I r1 r2 ⟨_, _, e1, e2, by rw [tS_length, tS_length, ← sizeL_eq]; exact hz, by rw [tS_append]; exact res.val g (.str _ (d1.val.strO.append d2.val.strO))⟩
      · cases hb
    · rename_i ta tb
      obtain ⟨a, xs, e1, q1, q2⟩ := d1.val.tupI
      obtain ⟨b, ys, e2, p1, p2⟩ := d2.val.tupI
      split at hb
      · rename_i hz
        have e3 := Option.some.inj hb; subst e3
        refine op_catA pins s σ H v1 v2 u1 u2 Q I r1 r2 ⟨a, b, xs, ys, e1, e2, q1, p1, by rw [← q2.length, ← p2.length, ← sizeL_eq]; exact hz, fun z => ?_, fun z z' => ?_, fun z z' p hp => ?_⟩
        · have z1 := q2.ne_nil.mpr z
          subst z1
          exact res.val g (.tup p1 p2)
        · have z1 := p2.ne_nil.mpr z'
          subst z1
          rw [List.append_nil] at res
          exact res.val g (.tup q1 q2)
        · exact res μ _ _ (Ext.laid hp) (g.laid hp) (RD.newT hp (q2.append p2))
      · cases hb
    · split at hb
      · rename_i la lb c1 c2
        obtain ⟨a, xs, e1, q1, q2⟩ := d1.contentU g c1
        obtain ⟨b, ys, e2, p1, p2⟩ := d2.contentU g c2
        split at hb
        · rename_i hz
          have e3 := Option.some.inj hb; subst e3
          exact op_cat pins s σ H v1 v2 u1 u2 Q I r1 r2 ⟨a, b, xs, ys, e1, e2, q1, p1, by rw [← q2.length, ← p2.length, ← sizeL_eq]; exact hz, fun p hp => res μ _ _ (Ext.laid hp) (g.laid hp) (RD.newL g hp (q2.append p2))⟩
        · cases hb
      · cases hb
  | sub =>
    simp only [binR] at hb
    split at hb
    · have e1 := d1.val.intI; have e2 := d2.val.intI
      have e3 := Option.some.inj hb; subst e3
      exact op_sub pins s σ H v1 v2 u1 u2 Q I r1 r2 ⟨_, _, e1, e2, res.val g (.int _)⟩
    · cases hb
  | mul =>
    simp only [binR] at hb
    split at hb
    · have e1 := d1.val.intI; have e2 := d2.val.intI
      split at hb
      · rename_i hz
        have e3 := Option.some.inj hb; subst e3
        refine op_mul pins s σ H v1 v2 u1 u2 Q I r1 r2 ⟨_, _, e1, e2, ?_, res.val g (.int _)⟩
        rw [Bool.or_eq_true] at hz
        rcases hz with z | z
        · have := small_def z; exact .inl (by omega)
        · have := small_def z; exact .inr (by omega)
      · cases hb
    · have e2 := d2.val.intI
      obtain ⟨a, xs, e1, q1, q2⟩ := d1.val.tupI
      split at hb
      · rename_i hz
        have e3 := Option.some.inj hb; subst e3
        exact op_repT pins s σ H v1 v2 u1 u2 Q I r1 r2 ⟨a, _, xs, e1, e2, q1, fun z => hz.1 (q2.ne_nil.mpr z), hz.2.1, hz.2.2.1, by rw [← q2.length]; exact hz.2.2.2, fun p hp => res μ _ _ (Ext.laid hp) (g.laid hp) (RD.newT hp (q2.flatRep _))⟩
      · cases hb
    · have e2 := d2.val.intI
      split at hb
      · rename_i la c1
        obtain ⟨a, xs, e1, q1, q2⟩ := d1.contentU g c1
        split at hb
        · rename_i hz
          have e3 := Option.some.inj hb; subst e3
          refine op_rep pins s σ H v1 v2 u1 u2 Q I r1 r2 ⟨a, _, xs, e1, e2, q1, by omega, by omega, ?_, fun p hp => res μ _ _ (Ext.laid hp) (g.laid hp) (RD.newL g hp (q2.flatRep _))⟩
          rw [← q2.length]
          have h1 : ∀ j : Int, j ≤ 1000 → la.length * j.toNat ≤ sizeLine := fun j hj =>
            Nat.le_trans (Nat.mul_le_mul hz.2.2 (show j.toNat ≤ 1000 by omega)) (by rw [sizeLine_eq]; decide)
          exact h1 _ hz.2.1
        · cases hb
      · cases hb
    · cases hb
  | mod =>
    simp only [binR] at hb
    split at hb
    · have e1 := d1.val.intI; have e2 := d2.val.intI
      split at hb
      · rename_i hz
        have e3 := Option.some.inj hb; subst e3
        exact op_mod pins s σ H v1 v2 u1 u2 Q I r1 r2 ⟨_, _, e1, e2, hz, res.val g (.int _)⟩
      · cases hb
    · cases hb
  | fdiv =>
    simp only [binR] at hb
    split at hb
    · have e1 := d1.val.intI; have e2 := d2.val.intI
      split at hb
      · rename_i hz
        have e3 := Option.some.inj hb; subst e3
        exact op_fdiv pins s σ H v1 v2 u1 u2 Q I r1 r2 ⟨_, _, e1, e2, hz, res.val g (.int _)⟩
      · cases hb
    · cases hb
  | pow =>
    simp only [binR] at hb
    split at hb
    · have e1 := d1.val.intI; have e2 := d2.val.intI
      split at hb
      · rename_i hz
        have e3 := Option.some.inj hb; subst e3
        exact op_pow pins s σ H v1 v2 u1 u2 Q I r1 r2 ⟨_, _, e1, e2, ⟨hz.1, by omega, by omega⟩, res.val g (.int _)⟩
      · cases hb
    · cases hb
end
end Mi
/-! comparisons -/
namespace Mi
open PySem PySem.Spec PyProof.Rows L2

mutual
def toPy : W → PyData
  | .non => .none
  | .bl b => .bool b
  | .int i => .int i
  | .str s => .str (tS s)
  | .tup xs => .tuple (toPys xs)
  | .ref _ => .none
def toPys : List W → List PyData
  | [] => []
  | x :: xs => toPy x :: toPys xs
end
theorem strOk_of {s : Tx} (h : tOk s) : PyData.strOk (tS s) = true := by
  unfold PyData.strOk tS
  rw [← Array.all_toList]
  simp only [List.all_eq_true, decide_eq_true_eq]
  exact h
section
variable {K : Kw} {μ : Mu} {H : Hp}
theorem flat_dp : ∀ (n : Nat) (w : W) (v : V), flatN n w = true → Den K μ H w v → Dp K.K H v (toPy w) ∧ (toPy w).canLay0 = true ∧ (toPy w).depth ≤ n := by
  intro n
  induction n with
  | zero =>
    intro w v hf d
    cases d with
    | non => exact ⟨.non, rfl, Nat.le_refl _⟩
    | bl b => exact ⟨.bl b, rfl, Nat.le_refl _⟩
    | int i => exact ⟨.int i, rfl, Nat.le_refl _⟩
    | str s h => exact ⟨.str _, by simp only [toPy, PyData.canLay0]; exact strOk_of h, by simp [toPy, PyData.depth]⟩
    | ref h => simp [flatN] at hf
    | tup h d => simp [flatN] at hf
  | succ n ih =>
    intro w v hf d
    cases d with
    | non => exact ⟨.non, rfl, Nat.zero_le _⟩
    | bl b => exact ⟨.bl b, rfl, Nat.zero_le _⟩
    | int i => exact ⟨.int i, rfl, Nat.zero_le _⟩
    | str s h => exact ⟨.str _, by simp only [toPy, PyData.canLay0]; exact strOk_of h, by simp [toPy, PyData.depth]⟩
    | ref h => simp [flatN] at hf
    | tup h d =>
      rename_i a ws vs
      simp only [flatN] at hf
      have all : ∀ (ws : List W) (vs : List V), ws.all (flatN n) = true → Dens K μ H ws vs → DpAll K.K H vs (toPys ws) ∧ PyData.canLayAll0 (toPys ws) = true ∧ PyData.depthAll (toPys ws) ≤ n := by
        intro ws
        induction ws with
        | nil => intro vs _ d; cases d; exact ⟨.nil, rfl, Nat.zero_le _⟩
        | cons w ws ih2 =>
          intro vs hf d
          cases d with
          | cons d r =>
            simp only [List.all_cons, Bool.and_eq_true] at hf
            obtain ⟨a1, a2, a3⟩ := ih w _ hf.1 d
            obtain ⟨b1, b2, b3⟩ := ih2 _ hf.2 r
            exact ⟨.cons a1 b1, by simp [toPys, PyData.canLayAll0, a2, b2], by simp only [toPys, PyData.depthAll]; omega⟩
      obtain ⟨b1, b2, b3⟩ := all ws vs hf d
      exact ⟨.tup h b1, by simpa [toPy, PyData.canLay0] using b2, by simp only [toPy, PyData.depth]; omega⟩
theorem flats_dp {n : Nat} : ∀ (ws : List W) (vs : List V), ws.all (flatN n) = true → Dens K μ H ws vs → DpAll K.K H vs (toPys ws) ∧ PyData.canLayAll0 (toPys ws) = true ∧ PyData.depthAll (toPys ws) ≤ n := by
  intro ws
  induction ws with
  | nil => intro vs _ d; cases d; exact ⟨.nil, rfl, Nat.zero_le _⟩
  | cons w ws ih2 =>
    intro vs hf d
    cases d with
    | cons d r =>
      simp only [List.all_cons, Bool.and_eq_true] at hf
      obtain ⟨a1, a2, a3⟩ := flat_dp n w _ hf.1 d
      obtain ⟨b1, b2, b3⟩ := ih2 _ hf.2 r
      exact ⟨.cons a1 b1, by simp [toPys, PyData.canLayAll0, a2, b2], by simp only [toPys, PyData.depthAll]; omega⟩
theorem val_dp {w : W} {v : V} (h : flatW w = true) (d : Den K μ H w v) : Dp K.K H v (toPy w) ∧ SeqAt.shaped (toPy w) = true := by
  obtain ⟨a, b, c⟩ := flat_dp 20 w v h d
  exact ⟨a, by unfold SeqAt.shaped; rw [b]; simp; omega⟩
theorem lst_dp {ws : List W} {vs : List V} {a : Addr} (h : Mi.ws ws = true) (hs : SqL K.K H a vs) (d : Dens K μ H ws vs) : Dp K.K H (.ref a) (.list (toPys ws)) ∧ SeqAt.shaped (.list (toPys ws)) = true := by
  obtain ⟨p, b, c⟩ := flats_dp (n := 20) ws vs h d
  refine ⟨.lst hs p, ?_⟩
  have e : PyData.depth (.list (toPys ws)) = PyData.depthAll (toPys ws) + 1 := by simp [PyData.depth]
  unfold SeqAt.shaped
  rw [e]
  simp only [PyData.canLay0, b, Bool.true_and, decide_eq_true_eq]
  omega
end
mutual
theorem eqv_dec : ∀ (a b : W) (n : Nat), cmpOk a b = true → flatN n a = true → flatN n b = true → PyData.eqv (toPy a) (toPy b) = decide (a = b)
  | .non, b, n, h, h1, h2 => by cases b <;> simp_all [toPy, PyData.eqv, flatN]
  | .bl a, b, n, h, h1, h2 => by
    cases b <;> simp_all [toPy, PyData.eqv, flatN, cmpOk]
    rw [Bool.eq_iff_iff]; simp
  | .int a, b, n, h, h1, h2 => by
    cases b <;> simp_all [toPy, PyData.eqv, flatN, cmpOk]
    rw [Bool.eq_iff_iff]; simp
  | .str a, b, n, h, h1, h2 => by
    cases b <;> simp_all [toPy, PyData.eqv, flatN, cmpOk]
    rename_i s
    rw [Bool.eq_iff_iff]
    simp only [beq_iff_eq, decide_eq_true_eq]
    exact ⟨tS_inj, fun e => by rw [e]⟩
  | .ref a, b, n, h, h1, h2 => by simp [flatN] at h1
  | .tup a, b, n, h, h1, h2 => by
    cases b with
    | tup b =>
      cases n with
      | zero => simp [flatN] at h1
      | succ n =>
        simp only [flatN] at h1 h2
        simp only [toPy, PyData.eqv]
        simp only [cmpOk] at h
        rw [eqvs_dec a b n h h1 h2]
        simp
    | ref b => cases n <;> simp [flatN] at h2
    | _ => simp_all [toPy, PyData.eqv, cmpOk]
theorem eqvs_dec : ∀ (a b : List W) (n : Nat), cmpOks a b = true → a.all (flatN n) = true → b.all (flatN n) = true → PyData.eqvAll (toPys a) (toPys b) = decide (a = b)
  | [], [], n, h, h1, h2 => by simp [toPys, PyData.eqvAll]
  | [], b :: bs, n, h, h1, h2 => by simp [toPys, PyData.eqvAll]
  | a :: as, [], n, h, h1, h2 => by simp [toPys, PyData.eqvAll]
  | a :: as, b :: bs, n, h, h1, h2 => by
    simp only [cmpOks, Bool.and_eq_true, List.all_cons] at h h1 h2
    simp only [toPys, PyData.eqvAll]
    rw [eqv_dec a b n h.1 h1.1 h2.1, eqvs_dec as bs n h.2 h1.2 h2.2]
    rw [Bool.eq_iff_iff]
    simp
end
theorem anyEqv {y : W} (hy : flatW y = true) : ∀ xs : List W, Mi.ws xs = true → xs.all (fun x => cmpOk x y) = true → ((toPys xs).any fun z => PyData.eqv z (toPy y)) = decide (y ∈ xs)
  | [], _, _ => by simp [toPys]
  | x :: xs, h1, h2 => by
    simp only [Mi.ws, List.all_cons, Bool.and_eq_true] at h1 h2
    simp only [toPys, List.any_cons]
    rw [anyEqv hy xs h1.2 h2.2, eqv_dec x y 20 h2.1 h1.1 hy]
    rw [Bool.eq_iff_iff]
    simp only [Bool.or_eq_true, decide_eq_true_eq, List.mem_cons]
    exact ⟨fun h => h.imp Eq.symm id, fun h => h.imp Eq.symm id⟩
def copOf : Cop → CmpOp
  | .eq => .Eq | .ne => .NotEq | .lt => .Lt | .le => .LtE | .gt => .Gt | .ge => .GtE | .isn => .Is | .notn => .IsNot | .inn => .In | .nin => .NotIn
/-- the comparison's reading -/
def rCmp (T : Tb) (X : Cx) (op : Cop) : R2 := fun v1 v2 H Q => ∃ B H0 H0' μ G x y b, RepG T (Kx X) μ G H ∧ RD (Kx X) B H0 μ H x v1 ∧ RD (Kx X) B H0' μ H y v2 ∧ cmpR op G x y = some b ∧ Q (.bl b) H
section
variable {T : Tb} {X : Cx} {B : Kd → Addr → Prop} {μ : Mu} {G : Gp} {H H0 H0' : Hp} {Q : VK} {pins : List (Addr × Obj)} {s : Shared} {σ : L2.St} {v1 v2 : V} {u1 u2 : Value} {x y : R}
/-- == of two things, by data or by length -/
theorem eq_read (g : RepG T (Kx X) μ G H) (d1 : RD (Kx X) B H0 μ H x v1) (d2 : RD (Kx X) B H0' μ H y v2) {b : Bool} (h : eqR G x y = some b) :
    (∃ d e, Dp X.K H v1 d ∧ Dp X.K H v2 e ∧ SeqAt.shaped d = true ∧ SeqAt.shaped e = true ∧ PyData.eqv d e = b) ∨
    (b = false ∧ ∃ a1 a2 vs1 vs2, v1 = .ref a1 ∧ v2 = .ref a2 ∧ SqL X.K H a1 vs1 ∧ SqL X.K H a2 vs2 ∧ vs1.length ≠ vs2.length) := by
  unfold eqR at h
  split at h
  · rename_i xs ys c1 c2
    obtain ⟨a1, rfl, o1⟩ := d1.content g c1
    obtain ⟨a2, rfl, o2⟩ := d2.content g c2
    obtain ⟨vs1, s1, e1⟩ := o1.lst
    obtain ⟨vs2, s2, e2⟩ := o2.lst
    unfold eqL at h
    split at h
    · rename_i hz
      have hb := Option.some.inj h
      cases xs with
      | nil =>
        cases ys with
        | nil =>
          cases e1; cases e2
          exact .inl ⟨.list [], .list [], .lst s1 .nil, .lst s2 .nil, by decide, by decide, by rw [← hb]; rfl⟩
        | cons w ws =>
          refine .inr ⟨by rw [← hb]; rfl, a1, a2, vs1, vs2, rfl, rfl, s1, s2, ?_⟩
          rw [← e1.length, ← e2.length]; simp
      | cons w ws =>
        cases ys with
        | nil =>
          refine .inr ⟨by rw [← hb]; rfl, a1, a2, vs1, vs2, rfl, rfl, s1, s2, ?_⟩
          rw [← e1.length, ← e2.length]; simp
        | cons w' ws' => simp at hz
    · split at h
      · rename_i hz
        simp only [Bool.and_eq_true] at hz
        have hb := Option.some.inj h
        obtain ⟨p1, q1⟩ := lst_dp hz.1.2 s1 e1
        obtain ⟨p2, q2⟩ := lst_dp hz.2 s2 e2
        refine .inl ⟨_, _, p1, p2, q1, q2, ?_⟩
        simp only [PyData.eqv]
        rw [eqvs_dec xs ys 20 hz.1.1 hz.1.2 hz.2, ← hb]
      · cases h
  · rename_i xs c1 c2
    obtain ⟨a1, rfl, o1⟩ := d1.content g c1
    obtain ⟨vs1, s1, e1⟩ := o1.lst
    split at h
    · rename_i w
      split at h
      · rename_i hz
        simp only [Bool.and_eq_true] at hz
        have hb := Option.some.inj h
        obtain ⟨p1, q1⟩ := lst_dp hz.1 s1 e1
        obtain ⟨p2, q2⟩ := val_dp hz.2 d2.val
        refine .inl ⟨_, _, p1, p2, q1, q2, ?_⟩
        rw [← hb]
        cases w <;> simp_all [toPy, PyData.eqv, flatW, flatN]
      · cases h
    · cases h
  · rename_i ys c1 c2
    obtain ⟨a2, rfl, o2⟩ := d2.content g c2
    obtain ⟨vs2, s2, e2⟩ := o2.lst
    split at h
    · rename_i w
      split at h
      · rename_i hz
        simp only [Bool.and_eq_true] at hz
        have hb := Option.some.inj h
        obtain ⟨p2, q2⟩ := lst_dp hz.1 s2 e2
        obtain ⟨p1, q1⟩ := val_dp hz.2 d1.val
        refine .inl ⟨_, _, p1, p2, q1, q2, ?_⟩
        rw [← hb]
        cases w <;> simp_all [toPy, PyData.eqv, flatW, flatN]
      · cases h
    · cases h
  · split at h
    · split at h
      · rename_i hz
        simp only [Bool.and_eq_true] at hz
        have hb := Option.some.inj h
        obtain ⟨p1, q1⟩ := val_dp hz.1.2 d1.val
        obtain ⟨p2, q2⟩ := val_dp hz.2 d2.val
        exact .inl ⟨_, _, p1, p2, q1, q2, by rw [eqv_dec _ _ 20 hz.1.1 hz.1.2 hz.2, ← hb]⟩
      · cases h
    · cases h
  · cases h
theorem sem_eq (hu : X.A.units + 64 < cLine) : OpR X (compareOp .Eq) (rCmp T X .eq) := by
  intro pins s σ H v1 v2 u1 u2 Q I r1 r2 h
  obtain ⟨B, H0, H0', μ, G, x, y, b, g, d1, d2, hb, q⟩ := h
  rcases eq_read g d1 d2 hb with ⟨d, e, p1, p2, q1, q2, hz⟩ | ⟨hz, a1, a2, vs1, vs2, rfl, rfl, s1, s2, hl⟩
  · exact op_eqD hu pins s σ H v1 v2 u1 u2 Q I r1 r2 ⟨d, e, p1, p2, q1, q2, by rw [hz]; exact q⟩
  · subst hz
    cases r1; cases r2
    obtain ⟨its1, rv1, l1, _⟩ := I.list s1
    obtain ⟨its2, rv2, l2, _⟩ := I.list s2
    exact SeqAt.eq_list_lengthsAt l1.isList l2.isList (by have := rv1.length; have := rv2.length; simp; omega) (by omega) ⟨.bl false, H, I, rfl, q⟩
theorem sem_ne (hu : X.A.units + 64 < cLine) : OpR X (compareOp .NotEq) (rCmp T X .ne) := by
  intro pins s σ H v1 v2 u1 u2 Q I r1 r2 h
  obtain ⟨B, H0, H0', μ, G, x, y, b, g, d1, d2, hb, q⟩ := h
  simp only [cmpR, Option.map_eq_some_iff] at hb
  obtain ⟨b', hb, rfl⟩ := hb
  rcases eq_read g d1 d2 hb with ⟨d, e, p1, p2, q1, q2, hz⟩ | ⟨hz, a1, a2, vs1, vs2, rfl, rfl, s1, s2, hl⟩
  · exact op_neD hu pins s σ H v1 v2 u1 u2 Q I r1 r2 ⟨d, e, p1, p2, q1, q2, by rw [hz]; exact q⟩
  · subst hz
    cases r1; cases r2
    obtain ⟨its1, rv1, l1, _⟩ := I.list s1
    obtain ⟨its2, rv2, l2, _⟩ := I.list s2
    exact SeqAt.RcNeAt.lists_lengths l1.isList l2.isList (by have := rv1.length; have := rv2.length; simp; omega) (by omega) _ _ _ _ ⟨.bl true, H, I, rfl, q⟩
theorem sem_ord : ∀ op : Cop, op = .lt ∨ op = .le ∨ op = .gt ∨ op = .ge → OpR X (compareOp (copOf op)) (rCmp T X op) := by
  intro op hop pins s σ H v1 v2 u1 u2 Q I r1 r2 h
  obtain ⟨B, H0, H0', μ, G, x, y, b, g, d1, d2, hb, q⟩ := h
  rcases hop with rfl | rfl | rfl | rfl
  all_goals
    simp only [cmpR] at hb
    split at hb
    · have e1 := d1.val.intI; have e2 := d2.val.intI
      have e3 := Option.some.inj hb; subst e3
      first
        | exact op_lt pins s σ H v1 v2 u1 u2 Q I r1 r2 ⟨_, _, e1, e2, q⟩
        | exact op_le pins s σ H v1 v2 u1 u2 Q I r1 r2 ⟨_, _, e1, e2, q⟩
        | exact op_gt pins s σ H v1 v2 u1 u2 Q I r1 r2 ⟨_, _, e1, e2, q⟩
        | exact op_ge pins s σ H v1 v2 u1 u2 Q I r1 r2 ⟨_, _, e1, e2, q⟩
    · cases hb
theorem RD.non_iff (d : RD (Kx X) B H0 μ H x v1) : (x = .val .non) ↔ v1 = .non := by
  cases x with
  | val w =>
    have d' : Den (Kx X) μ H w v1 := d
    cases d' <;> simp
  | obj k o =>
    constructor
    · intro e; cases e
    · intro e
      cases k with
      | own => obtain ⟨a, u, e1, _⟩ := d; rw [e] at e1; cases e1
      | brw => obtain ⟨a, e1, _⟩ := d; rw [e] at e1; cases e1
      | frz => obtain ⟨a, e1, _⟩ := d; rw [e] at e1; cases e1
      | top => obtain ⟨a, e1, _⟩ := d; rw [e] at e1; cases e1
  | exv _ _ => exact False.elim d
theorem sem_is : OpR X (compareOp .Is) (rCmp T X .isn) := by
  intro pins s σ H v1 v2 u1 u2 Q I r1 r2 h
  obtain ⟨B, H0, H0', μ, G, x, y, b, g, d1, d2, hb, q⟩ := h
  simp only [cmpR] at hb
  split at hb
  · rename_i hy
    have e3 := Option.some.inj hb; subst e3
    refine op_isN pins s σ H v1 v2 u1 u2 Q I r1 r2 ⟨d2.non_iff.mp hy, ?_⟩
    rw [show decide (v1 = V.non) = decide (x = .val .non) from by rw [Bool.eq_iff_iff]; simp [d1.non_iff]]
    exact q
  · cases hb
theorem sem_not : OpR X (compareOp .IsNot) (rCmp T X .notn) := by
  intro pins s σ H v1 v2 u1 u2 Q I r1 r2 h
  obtain ⟨B, H0, H0', μ, G, x, y, b, g, d1, d2, hb, q⟩ := h
  simp only [cmpR] at hb
  split at hb
  · rename_i hy
    have e3 := Option.some.inj hb; subst e3
    refine op_notN pins s σ H v1 v2 u1 u2 Q I r1 r2 ⟨d2.non_iff.mp hy, ?_⟩
    rw [show decide (v1 = V.non) = decide (x = .val .non) from by rw [Bool.eq_iff_iff]; simp [d1.non_iff]]
    exact q
  · cases hb
/-! ### in -/
theorem keyD_iff {k k' : W} {kk kk' : Key} (h : keyD k kk) (h' : keyD k' kk') : k = k' ↔ kk = kk' := by
  cases k <;> cases k' <;> simp_all [keyD]
  constructor
  · intro e; rw [e]
  · exact tS_inj
theorem keyD_ok {k : W} {kk : Key} {K : Kw} {μ : Mu} {H : Hp} (h : keyD k kk) : Den K μ H k (kV kk) := by
  cases k <;> simp_all [keyD, kV]
  · exact .int _
  · exact .str _ h.2
theorem keyD_of {k : W} {v : V} {K : Kw} {μ : Mu} {H : Hp} (h : keyOk k = true) (d : Den K μ H k v) : ∃ kk, keyD k kk ∧ v = kV kk := by
  cases d with
  | int i => exact ⟨.inl i, rfl, rfl⟩
  | str s hs => exact ⟨.inr (tS s), ⟨rfl, hs⟩, rfl⟩
  | _ => simp [keyOk] at h
section
variable {K : Kw} {μ : Mu} {H : Hp}
theorem DenKV.get {k : W} {kk : Key} (hk : keyD k kk) : ∀ {kvs : List (W × W)} {ks : List (Key × V)}, DenKV K μ H kvs ks →
    (kvs.lookup k = none ∧ valV ks kk = none) ∨ ∃ w v, kvs.lookup k = some w ∧ valV ks kk = some v ∧ Den K μ H w v
  | _, _, .nil => .inl ⟨rfl, rfl⟩
  | _, _, .cons (k := k') (w := w) (kk := kk') (v := v) (r := r) (rv := rv) h d q => by
    by_cases e : k' = k
    · have e' : kk' = kk := (keyD_iff h hk).mp e
      refine .inr ⟨w, v, ?_, valV_pos (p := (kk', v)) e', d⟩
      simp [List.lookup, e]
    · have e' : ¬ kk' = kk := fun z => e ((keyD_iff h hk).mpr z)
      rw [valV_neg (p := (kk', v)) e']
      have e2 : List.lookup k ((k', w) :: r) = List.lookup k r := by
        simp only [List.lookup]
        have : (k == k') = false := by simpa using fun z => e z.symm
        rw [this]
      rw [e2]
      exact DenKV.get hk q
theorem DenKV.any {k : W} {kk : Key} (hk : keyD k kk) : ∀ {kvs : List (W × W)} {ks : List (Key × V)}, DenKV K μ H kvs ks → (kvs.any fun p => decide (p.1 = k)) = (ks.any fun kv => decide (kv.1 = kk))
  | _, _, .nil => rfl
  | _, _, .cons h d q => by
    simp only [List.any_cons]
    rw [DenKV.any hk q, show decide (_ = k) = decide (_ = kk) from by rw [Bool.eq_iff_iff]; simpa using keyD_iff h hk]
theorem DenKV.length : ∀ {kvs : List (W × W)} {ks : List (Key × V)}, DenKV K μ H kvs ks → kvs.length = ks.length
  | _, _, .nil => rfl
  | _, _, .cons h d q => by simp [DenKV.length q]
theorem DenKV.mapPut {k w : W} {v : V} {kk : Key} (hk : keyD k kk) (d : Den K μ H w v) : ∀ {kvs : List (W × W)} {ks : List (Key × V)}, DenKV K μ H kvs ks →
    DenKV K μ H (kvs.map fun p => if p.1 = k then (p.1, w) else p) (ks.map fun kv => if kv.1 = kk then (kv.1, v) else kv)
  | _, _, .nil => .nil
  | _, _, .cons (k := k') (kk := kk') h e q => by
    simp only [List.map_cons]
    by_cases z : k' = k
    · rw [if_pos z, if_pos ((keyD_iff h hk).mp z)]
      exact .cons h d (DenKV.mapPut hk d q)
    · rw [if_neg z, if_neg (fun y => z ((keyD_iff h hk).mpr y))]
      exact .cons h e (DenKV.mapPut hk d q)
theorem DenKV.snoc {k w : W} {v : V} {kk : Key} (hk : keyD k kk) (d : Den K μ H w v) : ∀ {kvs : List (W × W)} {ks : List (Key × V)}, DenKV K μ H kvs ks → DenKV K μ H (kvs ++ [(k, w)]) (ks ++ [(kk, v)])
  | _, _, .nil => .cons hk d .nil
  | _, _, .cons h e q => .cons h e (DenKV.snoc hk d q)
theorem DenKV.put {k w : W} {v : V} {kk : Key} (hk : keyD k kk) (d : Den K μ H w v) {kvs : List (W × W)} {ks : List (Key × V)} (q : DenKV K μ H kvs ks) : DenKV K μ H (dput kvs k w) (putK ks kk v) := by
  unfold dput putK
  rw [q.any hk]
  split
  · exact q.mapPut hk d
  · exact q.snoc hk d
theorem DenKV.drop {k : W} {kk : Key} (hk : keyD k kk) : ∀ {kvs : List (W × W)} {ks : List (Key × V)}, DenKV K μ H kvs ks → DenKV K μ H (kvs.filter fun p => p.1 ≠ k) (dropK ks kk)
  | _, _, .nil => .nil
  | _, _, .cons (k := k') (kk := kk') h e q => by
    unfold dropK
    simp only [List.filter_cons]
    by_cases z : k' = k
    · rw [if_neg (by simpa using z), if_neg (by simpa using (keyD_iff h hk).mp z)]
      exact DenKV.drop hk q
    · rw [if_pos (by simpa using z), if_pos (by simpa using fun y => z ((keyD_iff h hk).mpr y))]
      exact .cons h e (DenKV.drop hk q)
theorem DenKV.keys : ∀ {kvs : List (W × W)} {ks : List (Key × V)}, DenKV K μ H kvs ks → Dens K μ H (kvs.map (·.1)) (ks.map fun p => kV p.1)
  | _, _, .nil => .nil
  | _, _, .cons h e q => .cons (keyD_ok h) (DenKV.keys q)
theorem OR.dct {kvs : List (W × W)} {a : Addr} (h : OR K μ H (.dct kvs) a) : (∃ ks, Rd H a (.dK ks) ∧ DenKV K μ H kvs ks) ∨ KD K μ H (.dct kvs) a := by
  rcases h with ⟨u, h1, h2⟩ | h | h
  · cases h2 with
    | dct d => exact .inl ⟨_, h1, d⟩
  · exact .inr h
  · exact h.elim
end
theorem plain_flatV {K : Kw} {μ : Mu} {H : Hp} {w : W} {v : V} (h : plainW w = true) (d : Den K μ H w v) : flatV v = true := by
  cases d <;> first | rfl | simp [plainW] at h
theorem plain_eqV {K : Kw} {μ : Mu} {H : Hp} {a b : W} {v u : V} (ha : plainW a = true) (hb : plainW b = true) (hc : cmpOk a b = true) (d : Den K μ H a v) (e : Den K μ H b u) : eqV v u = decide (a = b) := by
  cases d <;> cases e <;> simp_all [plainW, cmpOk, eqV]
  · rw [Bool.eq_iff_iff]; simp
  · rw [Bool.eq_iff_iff]; simp
  · rw [Bool.eq_iff_iff]
    simp only [beq_iff_eq, decide_eq_true_eq]
    exact ⟨tS_inj, fun e => by rw [e]⟩
theorem plain_in {K : Kw} {μ : Mu} {H : Hp} {y : W} {u : V} (hy : plainW y = true) (dy : Den K μ H y u) : ∀ {xs : List W} {vs : List V}, xs.all plainW = true → xs.all (fun x => cmpOk x y) = true → Dens K μ H xs vs →
    vs.all flatV = true ∧ inV u vs = decide (y ∈ xs)
  | _, _, _, _, .nil => ⟨rfl, by simp [inV]⟩
  | _, _, h1, h2, .cons d r => by
    simp only [List.all_cons, Bool.and_eq_true] at h1 h2
    obtain ⟨a, b⟩ := plain_in hy dy h1.2 h2.2 r
    refine ⟨by simp [plain_flatV h1.1 d, a], ?_⟩
    unfold inV at b ⊢
    rw [List.any_cons, b, plain_eqV h1.1 hy h2.1 d dy]
    rw [Bool.eq_iff_iff]
    simp only [Bool.or_eq_true, decide_eq_true_eq, List.mem_cons]
    exact ⟨fun h => h.imp Eq.symm id, fun h => h.imp Eq.symm id⟩
theorem letters_in : (!(Builtin.Str.occurrences (tS letters) (tS []) 0 (tS letters).length 1).isEmpty) = true := by decide +kernel
/-- what «in» tells -/
theorem RD.notK (d : RD (Kx X) B H0 μ H x v1) (g : RepG T (Kx X) μ G H) {kvs : List (W × W)} {w : W} (c : Mi.content G x = some (.dct kvs)) (hk : keyFor x w = true) (hw : ∀ z, w ≠ .str z) : ∃ a ks, v1 = .ref a ∧ Rd H a (.dK ks) ∧ DenKV (Kx X) μ H kvs ks := by
  refine d.dict g c fun o e => ?_
  subst e
  cases w <;> simp_all [keyFor]
theorem in_read (hu : X.A.units + 65 < cLine) (g : RepG T (Kx X) μ G H) (I : Inv X pins σ H s) (r1 : RelV v1 u1) (r2 : RelV v2 u2) (d1 : RD (Kx X) B H0 μ H x v1) (d2 : RD (Kx X) B H0' μ H y v2) {b : Bool} (h : cmpR.inR G x y = some b) :
    (Q (.bl b) H → wpAny (model X.prog X.w) X.A (compareOp .In u1 u2) (EP X pins σ Q) X.xe s) ∧ (Q (.bl (!b)) H → wpAny (model X.prog X.w) X.A (compareOp .NotIn u1 u2) (EP X pins σ Q) X.xe s) := by
  unfold cmpR.inR at h
  split at h
  · rename_i a c
    have e1 := d1.val.strI
    have e2 := d2.val.strI
    unfold subT at h
    split at h
    · rename_i z
      have hb := Option.some.inj h
      subst hb
      have hz : decide (z ∈ (tS c).cps.toList) = decide (z ∈ c) := by rw [tS_toList]
      exact ⟨fun q => op_in_sign pins s σ H v1 v2 u1 u2 Q I r1 r2 ⟨z, tS c, e1, e2, by rw [hz]; exact q⟩, fun q => op_notIn_sign pins s σ H v1 v2 u1 u2 Q I r1 r2 ⟨z, tS c, e1, e2, by rw [hz]; exact q⟩⟩
    · split at h
      · rename_i hc
        have hb := Option.some.inj h
        subst hb hc
        exact ⟨fun q => op_in_str pins s σ H v1 v2 u1 u2 Q I r1 r2 ⟨_, _, e1, e2, by rw [letters_in]; exact q⟩, fun q => op_notin_str pins s σ H v1 v2 u1 u2 Q I r1 r2 ⟨_, _, e1, e2, by rw [letters_in]; exact q⟩⟩
      · cases h
    · cases h
  · rename_i w xs
    unfold memP at h
    split at h
    · rename_i hz
      simp only [Bool.and_eq_true] at hz
      have hb := Option.some.inj h
      subst hb
      obtain ⟨a, vs, e2, q1, q2⟩ := d2.val.tupI
      obtain ⟨f1, f2⟩ := plain_in hz.1.1 d1.val hz.1.2 hz.2 q2
      exact ⟨fun q => op_in_seq pins s σ H v1 v2 u1 u2 Q I r1 r2 ⟨a, vs, e2, .inr q1, plain_flatV hz.1.1 d1.val, f1, by simpa [f2] using q⟩,
        fun q => op_notIn_seq pins s σ H v1 v2 u1 u2 Q I r1 r2 ⟨a, vs, e2, .inr q1, plain_flatV hz.1.1 d1.val, f1, by simpa [f2] using q⟩⟩
    · cases h
  · rename_i w y' _
    split at h
    · rename_i xs c
      obtain ⟨a, e2, o⟩ := d2.content g c
      obtain ⟨vs, s2, ds⟩ := o.lst
      unfold memW at h
      split at h
      · rename_i hz
        simp only [Bool.and_eq_true] at hz
        have hb := Option.some.inj h
        subst hb
        obtain ⟨p1, q1⟩ := val_dp hz.1.1 d1.val
        obtain ⟨p2, q2⟩ := lst_dp hz.1.2 s2 ds
        subst e2
        have ha := anyEqv hz.1.1 xs hz.1.2 hz.2
        exact ⟨fun q => op_inD hu pins s σ H v1 _ u1 u2 Q I r1 r2 ⟨_, _, p1, p2, q1, q2, by rw [ha]; exact q⟩, fun q => op_notInD hu pins s σ H v1 _ u1 u2 Q I r1 r2 ⟨_, _, p1, p2, q1, q2, by rw [ha]; exact q⟩⟩
      · cases h
    · rename_i kvs c
      obtain ⟨a, e2, o⟩ := d2.content g c
      subst e2
      split at h
      · rename_i hkk
        simp only [Bool.and_eq_true] at hkk
        have hk := hkk.1
        have hb := Option.some.inj h
        obtain ⟨kk, k1, k2⟩ := keyD_of hk d1.val
        subst k2
        rcases o.dct with ⟨ks, rd, dk⟩ | o
        · obtain rfl : u2 = Value.ref a := r2
          have gt : DGet H a (kV kk) (valV ks kk) := .inl ⟨ks, kk, rd, rfl, rfl⟩
          have hv : (valV ks kk).isSome = b := by
            rw [← hb]
            rcases dk.get k1 with ⟨z1, z2⟩ | ⟨w', v', z1, z2, _⟩
            · rw [z2]; unfold dget; rw [z1]; rfl
            · rw [z2]; unfold dget; rw [z1]; rfl
          exact ⟨fun q => d_in (by omega) I gt r1 fun s' I' => ⟨.bl _, H, I', rfl, by rw [hv]; exact q⟩, fun q => d_notIn (by omega) I gt r1 fun s' I' => ⟨.bl _, H, I', rfl, by rw [hv]; exact q⟩⟩
        · obtain ⟨es, n, kd, ha⟩ := o
          cases w with
          | str z =>
            obtain ⟨r, e3, e4⟩ := ha z
            have e1 := d1.val.strI
            have hv : r.isSome = b := by
              rw [← hb]
              unfold dget
              cases hl : kvs.lookup (.str z) with
              | none => rw [hl] at e4; rw [e4]; rfl
              | some w' =>
                rw [hl] at e4
                obtain ⟨v', u', e5, _⟩ := e4
                rw [e5]; rfl
            exact ⟨fun q => op_in_kd kd pins s σ H _ _ u1 u2 Q I r1 r2 ⟨tS z, r, e1, rfl, e3, by rw [hv]; exact q⟩, fun q => op_notIn_kd kd pins s σ H _ _ u1 u2 Q I r1 r2 ⟨tS z, r, e1, rfl, e3, by rw [hv]; exact q⟩⟩
          | int z =>
            obtain ⟨a', ks, e', rd, dk⟩ := d2.notK g c hkk.2 (fun z e => nomatch e)
            cases e'
            obtain rfl : u2 = Value.ref a := r2
            have gt : DGet H a (kV kk) (valV ks kk) := .inl ⟨ks, kk, rd, rfl, rfl⟩
            have hv : (valV ks kk).isSome = b := by
              rw [← hb]
              rcases dk.get k1 with ⟨z1, z2⟩ | ⟨w', v', z1, z2, _⟩
              · rw [z2]; unfold dget; rw [z1]; rfl
              · rw [z2]; unfold dget; rw [z1]; rfl
            exact ⟨fun q => d_in (by omega) I gt r1 fun s' I' => ⟨.bl _, H, I', rfl, by rw [hv]; exact q⟩, fun q => d_notIn (by omega) I gt r1 fun s' I' => ⟨.bl _, H, I', rfl, by rw [hv]; exact q⟩⟩
          | _ => simp [keyOk] at hk
      · split at h
        · rename_i hz
          simp only [Bool.and_eq_true, decide_eq_true_eq] at hz
          obtain ⟨hz, hk⟩ := hz
          subst hz
          have hb := Option.some.inj h
          subst hb
          obtain ⟨a', ks, e', rd, dk⟩ := d2.notK g c hk (fun z e => nomatch e)
          cases e'
          have e1 := d1.val.nonI
          subst e1
          obtain rfl : u2 = Value.ref a := r2
          obtain rfl : u1 = Value.none := r1
          exact ⟨fun q => d_inNone I rd fun s' I' => ⟨.bl _, H, I', rfl, q⟩, fun q => d_notInNone I rd fun s' I' => ⟨.bl _, H, I', rfl, q⟩⟩
        · cases h
    · cases h
  · cases h
end
end Mi
/-! subscripts, slices, built-in defs and methods -/
namespace Mi
open PySem PySem.Spec PyProof.Rows L2
section
variable {T : Tb} {X : Cx} {B : Kd → Addr → Prop} {μ : Mu} {G : Gp} {H H0 H0' : Hp} {Q : VK} {pins : List (Addr × Obj)} {s : Shared} {σ : L2.St} {v1 v2 : V} {u1 u2 : Value} {x y : R}
theorem ixOf_eq (i : Int) (n : Nat) : ixOf i n = ixN n i := rfl
theorem Dens.atI {K : Kw} {ws : List W} {vs : List V} {i : Int} {w : W} (d : Dens K μ H ws vs) (h : (ixOf i ws.length).bind (fun k => ws[k]?) = some w) : ∃ v, L2.atI vs i = some v ∧ Den K μ H w v := by
  rw [Option.bind_eq_some_iff] at h
  obtain ⟨k, h1, h2⟩ := h
  obtain ⟨v, h3, h4⟩ := d.get h2
  refine ⟨v, ?_, h4⟩
  unfold L2.atI
  rw [← d.length, ← ixOf_eq, h1]
  exact h3
def rIdx (T : Tb) (X : Cx) : R2 := fun v1 v2 H Q => ∃ B H0 H0' μ G x y w, RepG T (Kx X) μ G H ∧ RD (Kx X) B H0 μ H x v1 ∧ RD (Kx X) B H0' μ H y v2 ∧ idxR G x y = some w ∧ ∀ v, Den (Kx X) μ H w v → Q v H
theorem sub_at {value slice : Expr} {Ty : String} {id : String} (hl : typeLookup (.type Ty) "__getitem__" = pure (some (.builtin id))) (hT : s.TypeIs u1 Ty)
    (h : wpAny (model X.prog X.w) X.A (getItem u1 u2) (EP X pins σ Q) X.xe s) (hs : subscripted slice false u1 u2 = operate [u1, u2] (getItem u1 u2)) : wpAny (model X.prog X.w) X.A (subscriptTail value slice u1 u2) (EP X pins σ Q) X.xe s := by
  unfold subscriptTail
  refine wpAny_bind ?_
  rw [getitemInPython_of_ne hT.not_modules]
  refine wpAny_bind (wpAny_specialOf hT hl ?_)
  have fin : wpAny (model X.prog X.w) X.A (subscripted slice false u1 u2) (fun r s₃ => wpAny (model X.prog X.w) X.A (letTemporaryGo value u1 r >>= fun _ => pure r) (EP X pins σ Q) X.xe s₃) X.xe s := by
    rw [hs]
    exact wpAny_operating (wpAny_mono h (fun r s₃ h₃ => wpAny_bind (wpAny_letTemporaryGo (wpAny_pure h₃))) fun _ _ x => x)
  first
    | exact wpAny_pure (wpAny_bind fin)
    | exact wpAny_bind (wpAny_pure (wpAny_bind fin))
    | exact wpAny_bind fin
theorem sem_idx (hu : X.A.units + 65 < cLine) : IxR X (rIdx T X) := by
  intro value slice pins s σ H v1 v2 u1 u2 Q I r1 r2 h hs
  obtain ⟨B, H0, H0', μ, G, x, y, w, g, d1, d2, hb, q⟩ := h
  unfold idxR at hb
  split at hb
  · rename_i z i
    split at hb
    · cases hb
    rename_i hlen
    rw [sizeL_eq] at hlen
    rw [Option.bind_eq_some_iff] at hb
    obtain ⟨k, h1, h2⟩ := hb
    rw [Option.map_eq_some_iff] at h2
    obtain ⟨c, h3, h4⟩ := h2
    subst h4
    have e1 := d1.val.strI; have e2 := d2.val.intI
    have hz := d1.val.strO
    refine ix_str value slice pins s σ H v1 v2 u1 u2 Q I r1 r2 ⟨tS z, i, c, e1, e2, by rw [tS_length]; omega, ?_, ?_⟩ hs
    · unfold L2.atI
      rw [tS_toList, ← ixOf_eq, h1]; exact h3
    · refine q _ ?_
      have := Den.str (K := Kx X) (μ := μ) (H := H) [c] (fun c' hc => by
        rw [List.mem_singleton] at hc; subst hc
        exact hz _ (List.mem_of_getElem? h3))
      exact this
  · rename_i xs i
    obtain ⟨a, vs, e1, q1, q2⟩ := d1.val.tupI
    have e2 := d2.val.intI
    obtain ⟨v, a1, a2⟩ := q2.atI hb
    exact ix_tup value slice pins s σ H v1 v2 u1 u2 Q I r1 r2 ⟨a, vs, i, v, e1, e2, q1, a1, q v a2⟩ hs
  · rename_i w' _ _
    split at hb
    · rename_i xs c
      obtain ⟨a, e1, o⟩ := d1.content g c
      obtain ⟨vs, s1, ds⟩ := o.lst
      split at hb
      · rename_i i
        have e2 := d2.val.intI
        obtain ⟨v, a1, a2⟩ := ds.atI hb
        exact ix_list value slice pins s σ H v1 v2 u1 u2 Q I r1 r2 ⟨a, vs, _, v, e1, e2, s1, a1, q v a2⟩ hs
      · cases hb
    · rename_i kvs c
      split at hb
      · rename_i hkk
        simp only [Bool.and_eq_true] at hkk
        obtain ⟨a, e1, o⟩ := d1.content g c
        subst e1
        obtain rfl : u1 = Value.ref a := r1
        obtain ⟨kk, k1, k2⟩ := keyD_of hkk.1 d2.val
        subst k2
        have tracked : ∀ ks, Rd H a (.dK ks) → DenKV (Kx X) μ H kvs ks → wpAny (model X.prog X.w) X.A (subscriptTail value slice (.ref a) u2) (EP X pins σ Q) X.xe s := fun ks rd dk => by
          rcases dk.get k1 with ⟨z1, z2⟩ | ⟨w2, v', z1, z2, dv⟩
          · unfold dget at hb; rw [z1] at hb; cases hb
          · unfold dget at hb; rw [z1] at hb
            cases hb
            have gt : DGet H a (kV kk) (some v') := .inl ⟨ks, kk, rd, rfl, z2.symm⟩
            exact sub_at PySem.F.slot_dict_getitem.lookup (dict_typeIs I gt) (d_getItem (by omega) I gt r2 fun w3 s3 I3 rw3 => ⟨v', H, I3, rw3, q v' dv⟩) hs
        rcases o.dct with ⟨ks, rd, dk⟩ | o
        · exact tracked ks rd dk
        · cases w' with
          | str z =>
            obtain ⟨es, n, kd, ha⟩ := o
            obtain ⟨r, e3, e4⟩ := ha z
            unfold dget at hb
            rw [hb] at e4
            obtain ⟨v', u', e5, e6, e7⟩ := e4
            subst e5
            have e2 := d2.val.strI
            exact sub_at PySem.F.slot_dict_getitem.lookup (kd_type kd I) (op_item_kd kd pins s σ H (.ref a) _ _ u2 Q I (show RelV (V.ref a) (Value.ref a) from rfl) r2 ⟨tS z, u', v', rfl, e2, e3, e6, q v' e7⟩) hs
          | int z =>
            obtain ⟨a', ks, e', rd, dk⟩ := d1.notK g c hkk.2 (fun z e => nomatch e)
            cases e'
            exact tracked ks rd dk
          | _ => simp [keyOk] at hkk
      · cases hb
    · cases hb
  · cases hb
/-- a slice's end -/
def EndD (K : Kw) (B : Kd → Addr → Prop) (H0 : Hp) (μ : Mu) (H : Hp) : Option R → Option Int → Prop
  | none, none => True
  | some (.val (.int i)), some j => i = j
  | _, _ => False
theorem endOf_ix {d n : Nat} {o : Option R} {j : Option Int} {k : Nat} (h : endOf d n o = some k) (e : EndD (Kx X) B H0 μ H o j) : HT.sIx n d j = k := by
  cases o with
  | none =>
    cases j with
    | none => cases h; rfl
    | some j => exact e.elim
  | some r =>
    cases j with
    | none => cases r with
      | val w => cases w <;> exact e.elim
      | obj _ _ => exact e.elim
      | exv _ _ => exact e.elim
    | some j =>
      cases r with
      | val w =>
        cases w with
        | int i =>
          have e' : i = j := e
          subst e'
          simp only [endOf] at h
          split at h
          · cases h; rfl
          · cases h
        | _ => exact e.elim
      | obj _ _ => exact e.elim
      | exv _ _ => exact e.elim
theorem Dens.cut {K : Kw} {ws : List W} {vs : List V} (a b : Nat) (d : Dens K μ H ws vs) : Dens K μ H (Mi.cut a b ws) ((vs.drop a).take (b - a)) := (d.drop a).take (b - a)
def rSlc (T : Tb) (X : Cx) : V → Option Int → Option Int → Hp → VK → Prop := fun v1 i j H Q => ∃ B H0 H1 H2 μ G x lo hi r, RepG T (Kx X) μ G H ∧ RD (Kx X) B H0 μ H x v1 ∧ EndD (Kx X) B H1 μ H lo i ∧ EndD (Kx X) B H2 μ H hi j ∧ slcR G x lo hi = some r ∧ Res T X B μ G H r Q
theorem sem_slc : SlR X (rSlc T X) := by
  intro pins s σ H v1 u1 vl vu i j sl Q I r1 hs pl pu h
  obtain ⟨B, H0, H1, H2, μ, G, x, lo, hi, r, g, d1, el, eh, hb, res⟩ := h
  unfold slcR at hb
  split at hb
  · rename_i z
    split at hb
    · cases hb
    rename_i hz
    rw [sizeL_eq] at hz
    rw [Option.bind_eq_some_iff] at hb
    obtain ⟨a, h1, h2⟩ := hb
    rw [Option.map_eq_some_iff] at h2
    obtain ⟨b, h3, h4⟩ := h2
    subst h4
    refine sl_str pins s σ H v1 u1 vl vu i j sl Q I r1 hs pl pu ⟨tS z, d1.val.strI, by rw [tS_length]; omega, ?_⟩
    have e : cutS (tS z) i j = tS (Mi.cut a b z) := by
      unfold cutS
      rw [tS_length, endOf_ix h1 el, endOf_ix h3 eh]
      rw [tS_toList]
      rfl
    rw [e]
    exact res.val g (.str _ fun c hc => d1.val.strO c (List.mem_of_mem_drop (List.mem_of_mem_take hc)))
  · rename_i xs
    obtain ⟨p, vs, e1, q1, q2⟩ := d1.val.tupI
    rw [Option.bind_eq_some_iff] at hb
    obtain ⟨a, h1, h2⟩ := hb
    rw [Option.map_eq_some_iff] at h2
    obtain ⟨b, h3, h4⟩ := h2
    subst h4
    have ea := endOf_ix h1 el
    have eb := endOf_ix h3 eh
    rw [q2.length] at ea eb
    refine sl_tupA pins s σ H v1 u1 vl vu i j sl Q I r1 hs pl pu ⟨p, vs, e1, q1, fun z => ?_, fun z q hq => ?_⟩
    · refine res.val g (v := V.ref p) ?_
      rw [ea, eb] at z
      have : Mi.cut a b xs = xs := by unfold Mi.cut; rw [z.1, z.2, ← q2.length]; simp
      rw [this]
      exact .tup q1 q2
    · refine res μ _ _ (Ext.laid hq) (g.laid hq) (RD.newT hq ?_)
      unfold cutV
      rw [ea, eb]
      exact q2.cut a b
  · split at hb
    · rename_i xs c
      obtain ⟨p, e1, o⟩ := d1.content g c
      obtain ⟨vs, s1, ds⟩ := o.lst
      rw [Option.bind_eq_some_iff] at hb
      obtain ⟨a, h1, h2⟩ := hb
      rw [Option.map_eq_some_iff] at h2
      obtain ⟨b, h3, h4⟩ := h2
      subst h4
      have ea := endOf_ix h1 el
      have eb := endOf_ix h3 eh
      rw [ds.length] at ea eb
      refine sl_list pins s σ H v1 u1 vl vu i j sl Q I r1 hs pl pu ⟨p, vs, e1, s1, fun q hq => res μ _ _ (Ext.laid hq) (g.laid hq) (RD.newL g hq ?_)⟩
      unfold cutV
      rw [ea, eb]
      exact ds.cut a b
    · cases hb
/-! ### built-in defs -/
def RDs (K : Kw) (B : Kd → Addr → Prop) (μ : Mu) (H : Hp) (xs : List R) (vs : List V) : Prop := Paired (fun x v => ∃ H0, RD K B H0 μ H x v) xs vs
def rOne (T : Tb) (X : Cx) (f : Gp → R → Option R) : List V → Hp → VK → Prop := fun vs H Q => ∃ v B H0 μ G x r, vs = [v] ∧ RepG T (Kx X) μ G H ∧ RD (Kx X) B H0 μ H x v ∧ f G x = some r ∧ Res T X B μ G H r Q
theorem RDs.one {xs : List R} {x : R} {vs : List V} (h : RDs (Kx X) B μ H [x] vs) : ∃ v H0, vs = [v] ∧ RD (Kx X) B H0 μ H x v := by
  cases h with
  | cons a b => cases b; obtain ⟨H0, a⟩ := a; exact ⟨_, H0, rfl, a⟩
theorem RD.seqOf (g : RepG T (Kx X) μ G H) (d : RD (Kx X) B H0 μ H x v1) {ws : List W} (h : Mi.seqOf G x = some ws) : ∃ a vs, v1 = .ref a ∧ (SqL X.K H a vs ∨ SqT X.K H a vs) ∧ Dens (Kx X) μ H ws vs := by
  unfold Mi.seqOf at h
  split at h
  · cases h
    obtain ⟨a, vs, e, q, ds⟩ := d.val.tupI
    exact ⟨a, vs, e, .inr q, ds⟩
  · split at h
    · rename_i c
      cases h
      obtain ⟨a, e, o⟩ := d.content g c
      obtain ⟨vs, q, ds⟩ := o.lst
      exact ⟨a, vs, e, .inl q, ds⟩
    · cases h
theorem sem_len : CallR X (.builtin "len") (rOne T X lenR) := by
  intro pins s σ H vs us Q I rr h
  obtain ⟨v, B, H0, μ, G, x, r, rfl, g, d, hb, res⟩ := h
  unfold lenR at hb
  split at hb
  · rename_i z
    split at hb
    · rename_i hz
      cases hb
      have e := d.val.strI
      subst e
      exact call_len pins s σ H _ us Q I rr ⟨_, z.length, rfl, ⟨by rw [tS_length, ← sizeL_eq]; exact hz, (tS_length z).symm⟩, res.val g (.int _)⟩
    · cases hb
  · rename_i ws
    cases hb
    obtain ⟨a, xs, e, q, ds⟩ := d.val.tupI
    subst e
    exact call_len pins s σ H _ us Q I rr ⟨_, ws.length, rfl, .inr ⟨xs, q, ds.length⟩, res.val g (.int _)⟩
  · split at hb
    · rename_i ws c
      cases hb
      obtain ⟨a, e, o⟩ := d.content g c
      obtain ⟨xs, q, ds⟩ := o.lst
      subst e
      exact call_len pins s σ H _ us Q I rr ⟨_, ws.length, rfl, .inl ⟨xs, q, ds.length⟩, res.val g (.int _)⟩
    · rename_i kvs c
      split at hb
      · cases hb
      · rename_i hn
        cases hb
        obtain ⟨a, ks, e, rd, dk⟩ := d.dict g c hn
        subst e
        obtain ⟨u, rfl, ru⟩ := vals1 rr
        obtain rfl : u = Value.ref a := ru
        exact d_len I rd fun t s' I' => ⟨.int kvs.length, H, I', ⟨t, by rw [dk.length]⟩, res.val g (.int _)⟩
    · cases hb
theorem digit_tOk {s : Tx} (h : s.all isFig = true) : NumText.AllDigits s := by
  intro c hc
  have := List.all_eq_true.mp h c hc
  unfold isFig at this
  simpa using this
theorem showN_str {i : Int} (h : 0 ≤ i) : (toString i : PySem.Str) = tS (showN i.toNat) := by
  obtain ⟨m, rfl⟩ := Int.eq_ofNat_of_zero_le h
  have e := PySem.W.KIN.signs_num m
  have : (PySem.Str.ofString (toString ((m : Nat) : Int))) = tS (showN m) := by
    unfold tS showN
    rw [← e]
  simpa using this
theorem showN_ok (n : Nat) : tOk (showN n) := by
  intro c hc
  unfold showN at hc
  obtain ⟨ch, hch, e⟩ := List.mem_map.mp hc
  have r := PyProof.Rows.digit_range (Nat.isDigit_of_mem_toDigits (by decide) (by decide) hch)
  omega
theorem sem_str : CallR X (.type "str") (rOne T X strR) := by
  intro pins s σ H vs us Q I rr h
  obtain ⟨v, B, H0, μ, G, x, r, rfl, g, d, hb, res⟩ := h
  unfold strR at hb
  split at hb
  · rename_i i
    split at hb
    · rename_i hz'
      have hz := (Mi.shown_iff i).mp hz'
      cases hb
      have e := d.val.intI
      subst e
      refine call_str_int pins s σ H _ us Q I rr ⟨i, rfl, ?_, ?_⟩
      · by_cases h0 : i.natAbs = 0
        · rw [h0]; decide
        · exact Nat.lt_of_lt_of_le ((Nat.log2_lt h0).mpr (show i.natAbs < 2 ^ 34 by omega)) (by decide)
      · rw [showN_str hz.1]
        exact res.val g (.str _ (showN_ok _))
    · cases hb
  · rename_i z
    cases hb
    have e := d.val.strI
    subst e
    exact SkE.call_str_str pins s σ H _ us Q I rr ⟨_, rfl, res.val g d.val⟩
  · cases hb
theorem sem_int : CallR X (.type "int") (rOne T X intR) := by
  intro pins s σ H vs us Q I rr h
  obtain ⟨v, B, H0, μ, G, x, r, rfl, g, d, hb, res⟩ := h
  unfold intR at hb
  split at hb
  · rename_i z
    split at hb
    · rename_i hz
      cases hb
      have e := d.val.strI
      subst e
      refine call_int_str pins s σ H _ us Q I rr ⟨_, ((readN z : Nat) : Int), rfl, ?_, by rw [tS_length]; omega, res.val g (.int _)⟩
      have := PySem.intText_digits (x := tS z) (by rw [tS_toList]; exact digit_tOk hz.2.2) (by rw [tS_toList]; exact hz.1) (by rw [tS_length]; omega)
      rw [this, tS_toList]
      rfl
    · cases hb
  · rename_i b
    cases hb
    have e := d.val.blI
    subst e
    exact call_int1 pins s σ H _ us Q I rr (.inr ⟨b, rfl, res.val g (.int _)⟩)
  · cases hb
theorem sem_list : CallR X (.type "list") (rOne T X listR) := by
  intro pins s σ H vs us Q I rr h
  obtain ⟨v, B, H0, μ, G, x, r, rfl, g, d, hb, res⟩ := h
  unfold listR at hb
  rw [Option.map_eq_some_iff] at hb
  obtain ⟨ws, h1, h2⟩ := hb
  subst h2
  obtain ⟨a, xs, e, q, ds⟩ := d.seqOf g h1
  subst e
  exact call_list_of pins s σ H _ us Q I rr ⟨a, xs, rfl, q, fun p hp => res μ _ _ (Ext.laid hp) (g.laid hp) (RD.newL g hp ds)⟩
theorem sem_tuple : CallR X (.type "tuple") (rOne T X tupleR) := by
  intro pins s σ H vs us Q I rr h
  obtain ⟨v, B, H0, μ, G, x, r, rfl, g, d, hb, res⟩ := h
  unfold tupleR at hb
  split at hb
  · rename_i ws c
    cases hb
    obtain ⟨a, e, o⟩ := d.content g c
    obtain ⟨xs, q, ds⟩ := o.lst
    subst e
    exact call_tuple_of pins s σ H _ us Q I rr ⟨a, xs, rfl, .inl ⟨q, fun p hp => res μ _ _ (Ext.laid hp) (g.laid hp) (RD.newT hp ds)⟩⟩
  · cases hb
end
end Mi
/-! methods of built-in types -/
namespace Mi
open PySem PySem.Spec PyProof.Rows L2

/-! ### texts cut and joined -/
theorem joinT_eq (s : Tx) : ∀ l : List Tx, Str.join (tS s) (l.map tS) = tS (joinT s l)
  | [] => rfl
  | [x] => rfl
  | x :: y :: r => by
    show (tS x ++ tS s ++ Str.join (tS s) (tS y :: r.map tS)) = _
    rw [show tS y :: r.map tS = (y :: r).map tS from rfl, joinT_eq s (y :: r), tS_append, tS_append]
    rfl
theorem split_eq (s : Tx) (c : Nat) : Txt.split (tS s) ⟨#[c]⟩ = (splitT c s).map tS := by
  have h1 := StrLaws.join_split (tS s) ⟨#[c]⟩
  have h2 := StrLaws.split_free (tS s) c
  have h3 := PyProof.Rows.split_pos (tS s) ⟨#[c]⟩
  generalize Txt.split (tS s) ⟨#[c]⟩ = L at h1 h2 h3
  have e : L = (L.map fun p => p.cps.toList).map tS := by
    rw [List.map_map]
    have : (tS ∘ fun p : Str => p.cps.toList) = id := by funext p; cases p; simp [tS]
    rw [this, List.map_id]
  generalize hM : (L.map fun p => p.cps.toList) = M at e
  have hc : (⟨#[c]⟩ : Str) = tS [c] := rfl
  rw [e, hc, joinT_eq] at h1
  have h4 := tS_inj h1
  have h5 : M ≠ [] := by
    intro z
    rw [z] at e
    rw [e] at h3
    simp at h3
  have h6 : ∀ p ∈ M, c ∉ p := by
    intro p hp
    rw [← hM] at hp
    obtain ⟨q, hq, rfl⟩ := List.mem_map.mp hp
    exact h2 q hq
  rw [e, ← h4, splitT_join h5 h6]
theorem splitT_ok (c : Nat) : ∀ {s : Tx}, tOk s → ∀ p ∈ splitT c s, tOk p
  | [], _, p, hp => by rw [splitT, List.mem_singleton] at hp; subst hp; intro x hx; cases hx
  | x :: xs, h, p, hp => by
    have hx : x < 1114112 := h x List.mem_cons_self
    have ih := splitT_ok c (s := xs) fun y hy => h y (List.mem_cons_of_mem _ hy)
    rw [splitT] at hp
    split at hp
    · rcases List.mem_cons.mp hp with rfl | hp
      · intro y hy; cases hy
      · exact ih p hp
    · split at hp
      · rw [List.mem_singleton] at hp; subst hp
        intro y hy; rw [List.mem_singleton] at hy; subst hy; exact hx
      · rename_i y ys e
        rcases List.mem_cons.mp hp with rfl | hp
        · intro z hz
          rcases List.mem_cons.mp hz with rfl | hz
          · exact hx
          · exact ih y (by rw [e]; exact List.mem_cons_self) z hz
        · exact ih p (by rw [e]; exact List.mem_cons_of_mem _ hp)
theorem joinT_ok {s : Tx} (hs : tOk s) : ∀ {l : List Tx}, (∀ x ∈ l, tOk x) → tOk (joinT s l)
  | [], _ => fun c hc => by cases hc
  | [x], h => h x List.mem_cons_self
  | x :: y :: r, h => ((h x List.mem_cons_self).append hs).append (joinT_ok hs fun z hz => h z (List.mem_cons_of_mem _ hz))

section
variable {T : Tb} {X : Cx} {B : Kd → Addr → Prop} {μ μ0 : Mu} {G : Gp} {H H0 H1 : Hp} {Q : VK} {pins : List (Addr × Obj)} {s : Shared} {σ : L2.St} {v1 v2 : V} {u1 u2 : Value} {x y : R}
/-- what is wanted of a value that comes, reckoned from the expression's start -/
def Cont (T : Tb) (X : Cx) (B : Kd → Addr → Prop) (μ0 : Mu) (H0 : Hp) (G : Gp) (r : R) (Q : VK) : Prop :=
  ∀ μ' H' v, Ext (Kx X) μ0 H0 μ' H' → RepG T (Kx X) μ' G H' → RD (Kx X) B H0 μ' H' r v → Q v H'
theorem Cont.res {r : R} (c : Cont T X B μ0 H0 G r Q) (e : Ext (Kx X) μ0 H0 μ H) : Res T X B μ G H r Q := fun μ' H' v e' g d => c μ' H' v (e.trans e') g (d.back e)
theorem Res.cont {r : R} (c : Res T X B μ G H r Q) : Cont T X B μ H G r Q := c
/-- an object that is shared gets another content -/
theorem Ext.set {a : Addr} {u : HO} (hm : (false, a) ∈ μ) (hu : ∀ xs, H a ≠ some (.tup xs)) (hf : ∀ o u', H a ≠ some (.frz o u')) : Ext (Kx X) μ H μ (upd H a u) := by
  refine ⟨fun _ _ h => h, fun b h n => absurd h n, fun b o e n => ?_, fun b xs q => ?_, fun b q => ?_, fun b o u' e => by rw [upd_ne (fun z : b = a => hf o u' (z ▸ e))]; exact e⟩
  · rw [upd_ne (fun z : b = a => n (z ▸ hm))]; exact e
  · rcases q with q | q
    · refine .inl ?_
      rcases q with q | ⟨o, q⟩
      · exact .inl (by rw [upd_ne (fun z : b = a => hu xs (z ▸ q))]; exact q)
      · exact .inr ⟨o, by rw [upd_ne (fun z : b = a => hf o _ (z ▸ q))]; exact q⟩
    · exact .inr q
  · by_cases z : b = a
    · subst z; rw [upd_same] at q; cases q
    · rw [upd_ne z] at q; exact q
theorem RepG.set (g : RepG T (Kx X) μ G H) {p : Nat} {a : Addr} {go : GO} {u : HO} (hp : μ[p]? = some (false, a)) (hu : ∀ xs, H a ≠ some (.tup xs)) (hf : ∀ o u', H a ≠ some (.frz o u'))
    (q : GD T (Kx X) μ (upd H a u) go (false, a)) : RepG T (Kx X) μ (G.set p go) (upd H a u) := by
  have hm : (false, a) ∈ μ := List.mem_of_getElem? hp
  have gr : Gro (Kx X) μ H μ (upd H a u) := (Ext.set hm hu hf).gro
  refine ⟨by rw [List.length_set]; exact g.len, g.nd, fun i go' b hg hi => ?_⟩
  by_cases z : p = i
  · subst z
    rw [hp] at hi; cases hi
    have hl : p < G.length := by
      have := (List.getElem?_eq_some_iff.mp hp).1
      rw [← g.len]; exact this
    rw [List.getElem?_set_self hl] at hg
    cases hg
    exact q
  · rw [List.getElem?_set_ne z] at hg
    have q' := g.ob i go' b hg hi
    obtain ⟨k, b⟩ := b
    cases k with
    | false =>
      have ne : b ≠ a := fun e => z (g.nd p i a hp (e ▸ hi))
      cases go' with
      | obj o => obtain ⟨w, h1, h2⟩ := q'; exact ⟨w, by rw [upd_ne ne]; exact h1, h2.mono gr⟩
      | frz o =>
        obtain ⟨w, h1, h2⟩ := q'
        refine ⟨w, ?_, h2.mono gr⟩
        rcases h1 with h | ⟨ob, h⟩
        · exact .inl (by rw [upd_ne ne]; exact h)
        · exact .inr ⟨ob, by rw [upd_ne ne]; exact h⟩
      | ins c fs => obtain ⟨dx, fv, h1, h2⟩ := q'; exact ⟨dx, fv, by rw [upd_ne ne]; exact h1, h2.mono gr⟩
    | true =>
      cases go' with
      | obj o => exact q'
      | frz o => exact KL.mono gr q'
      | ins c fs => exact q'
/-- an object that came within the expression gets another content -/
theorem Ext.mine (e : Ext (Kx X) μ0 H0 μ H) {a : Addr} {u : HO} (h0 : H0 a = none) (hn : (false, a) ∉ μ) (hu : ∀ xs, H a ≠ some (.tup xs)) (hf : ∀ o u', H a ≠ some (.frz o u')) : Ext (Kx X) μ0 H0 μ (upd H a u) := by
  refine ⟨e.pre, e.new, fun b o q n => by rw [upd_ne (ne_of_none q h0)]; exact e.keep b o q n, fun b xs q => ?_, fun b q => ?_, fun b o u' q => by rw [upd_ne (ne_of_none q h0)]; exact e.frz b o u' q⟩
  · rcases e.tup b xs q with q | q
    · refine .inl ?_
      rcases q with q | ⟨o, q⟩
      · exact .inl (by rw [upd_ne (fun z : b = a => hu xs (z ▸ q))]; exact q)
      · exact .inr ⟨o, by rw [upd_ne (fun z : b = a => hf o _ (z ▸ q))]; exact q⟩
    · exact .inr q
  · by_cases z : b = a
    · subst z; exact h0
    · rw [upd_ne z] at q; exact e.grow b q
theorem RepG.mine (g : RepG T (Kx X) μ G H) {a : Addr} {u : HO} (hn : (false, a) ∉ μ) (hu : ∀ xs, H a ≠ some (.tup xs)) (hf : ∀ o u', H a ≠ some (.frz o u')) : RepG T (Kx X) μ G (upd H a u) := by
  refine g.keep ⟨fun _ _ h => h, fun b xs q => ?_⟩ fun b o hm q => by rw [upd_ne (fun z : b = a => hn (z ▸ hm))]; exact q
  rcases q with q | q
  · refine .inl ?_
    rcases q with q | ⟨o, q⟩
    · exact .inl (by rw [upd_ne (fun z : b = a => hu xs (z ▸ q))]; exact q)
    · exact .inr ⟨o, by rw [upd_ne (fun z : b = a => hf o _ (z ▸ q))]; exact q⟩
  · exact .inr q
/-! ### methods that change nothing -/
/-- one thing is handed in -/
def rM1 (T : Tb) (X : Cx) (f : Gp → R → R → Option R) (k : Kn) : V → List V → Hp → VK → Prop := fun v vs H Q => ∃ B H0 μ0 H1 H2 μ G x y v2 r, vs = [v2] ∧ Ext (Kx X) μ0 H0 μ H ∧ RepG T (Kx X) μ G H ∧ RD (Kx X) B H1 μ H x v ∧ RD (Kx X) B H2 μ H y v2 ∧ kindR G x = some k ∧ f G x y = some r ∧ Cont T X B μ0 H0 G r Q
theorem Cont.val {w : W} (c : Cont T X B μ0 H0 G (.val w) Q) (e : Ext (Kx X) μ0 H0 μ H) (g : RepG T (Kx X) μ G H) {v : V} (d : Den (Kx X) μ H w v) : Q v H := c μ H v e g d
theorem Cont.newL {ws : List W} {vs : List V} (c : Cont T X B μ0 H0 G (.obj .own (.lst ws)) Q) (e : Ext (Kx X) μ0 H0 μ H) (g : RepG T (Kx X) μ G H) (d : Dens (Kx X) μ H ws vs) : ∀ p, H p = none → Q (.ref p) (upd H p (.lst vs)) :=
  fun p hp => c μ _ _ (e.trans (Ext.laid hp)) (g.laid hp) ((RD.newL g hp d).back e)
theorem sem_split : MtR X "str.split" (rM1 T X (fun _ => splitR) .str) := by
  intro pins s σ H v vs u us Q I r1 rr h
  obtain ⟨B, H0, μ0, H1, H2, μ, G, x, y, v2, r, rfl, e, g, d, d2, hk, hb, c⟩ := h
  dsimp only at hb
  unfold splitR at hb
  split at hb
  · rename_i z
    split at hb
    · rename_i k
      split at hb
      · rename_i hz
        cases hb
        rw [sizeL_eq] at hz
        refine mt_split pins s σ H v _ u us Q I r1 rr ⟨tS z, ⟨#[k]⟩, d.val.strI, by rw [d2.val.strI]; rfl, rfl, by rw [tS_length]; exact hz, ?_⟩
        rw [split_eq]
        exact c.newL e g (Dens.strsW _ (splitT_ok k d.val.strO))
      · cases hb
    · cases hb
  · cases hb
theorem sem_join : MtR X "str.join" (rM1 T X joinR .str) := by
  intro pins s σ H v vs u us Q I r1 rr h
  obtain ⟨B, H0, μ0, H1, H2, μ, G, x, y, v2, r, rfl, e, g, d, d2, hk, hb, c⟩ := h
  unfold joinR at hb
  split at hb
  · rename_i z
    split at hb
    · rename_i xs cc
      rw [Option.bind_eq_some_iff] at hb
      obtain ⟨ts, h1, h2⟩ := hb
      split at h2
      · rename_i hz
        cases h2
        obtain ⟨a, e2, o⟩ := d2.content g cc
        obtain ⟨ys, q, ds⟩ := o.lst
        subst e2
        have hy := ds.strsI h1
        subst hy
        refine mt_join pins s σ H v _ u us Q I r1 rr ⟨tS z, a, ts.map tS, d.val.strI, rfl, .inl q, ?_, ?_⟩
        · rw [List.map_map, List.length_map, tS_length, show ((fun x : Str => x.length) ∘ tS) = fun x : Tx => x.length from by funext x; exact tS_length x]
          exact hz
        · rw [show Txt.join (tS z) (ts.map tS) = tS (joinT z ts) from by
            rw [← joinT_eq]
            exact beq_iff_eq.mp (PyProof.Rows.join_plain_closes _ _)]
          exact c.val e g (.str _ (joinT_ok d.val.strO (ds.strsO h1)))
      · cases h2
    · cases hb
  · cases hb
/-! ### methods that change a list -/
/-- .. the receiver's new content -/
def rU1 (T : Tb) (X : Cx) (f : Gp → O → R → Option (O × W)) : V → List V → Hp → VK → Prop := fun v vs H Q => ∃ B H2 μ G o o' w y v2 a u, v = .ref a ∧ H a = some u ∧ OD (Kx X) μ H o u ∧ vs = [v2] ∧ RepG T (Kx X) μ G H ∧ RD (Kx X) B H2 μ H y v2 ∧ f G o y = some (o', w) ∧
  (∀ u' v', (∀ H', Gro (Kx X) μ H μ H' → OD (Kx X) μ H' o' u') → Den (Kx X) μ H w v' → Q v' (upd H a u'))
theorem sem_append : MtM X "list.append" (rU1 T X (fun _ => appendO)) := by
  intro pins s σ H v vs u us Q I r1 rr h
  obtain ⟨B, H2, μ, G, o, o', w, y, v2, a, uo, rfl, ha, od, rfl, g, d, hb, c⟩ := h
  dsimp only at hb
  unfold appendO at hb
  split at hb
  · rename_i xs
    split at hb
    · rename_i w2
      split at hb
      · rename_i hz
        cases hb
        cases od with
        | lst dv =>
          rename_i ys
          exact mt_append pins s σ H _ _ u us Q I r1 rr ⟨a, ys, v2, rfl, rfl, ha, by rw [← dv.length, ← sizeL_eq]; exact hz, c _ _ (fun H' gr => .lst ((dv.mono gr).append (.cons (d.val.mono gr) .nil))) .non⟩
      · cases hb
    · cases hb
  · cases hb
theorem sem_extend : MtM X "list.extend" (rU1 T X extendO) := by
  intro pins s σ H v vs u us Q I r1 rr h
  obtain ⟨B, H2, μ, G, o, o', w, y, v2, a, uo, rfl, ha, od, rfl, g, d, hb, c⟩ := h
  unfold extendO at hb
  split at hb
  · rename_i xs
    split at hb
    · rename_i zs cc
      split at hb
      · rename_i hz
        cases hb
        obtain ⟨b, vz, e2, hB, dz⟩ := d.contentU g cc
        subst e2
        cases od with
        | lst dv =>
          rename_i ys
          exact mt_extend pins s σ H _ _ u us Q I r1 rr ⟨a, b, ys, vz, rfl, rfl, ha, hB, by rw [← dv.length, ← dz.length, ← sizeL_eq]; exact hz, c _ _ (fun H' gr => .lst ((dv.mono gr).append (dz.mono gr))) .non⟩
      · cases hb
    · cases hb
  · cases hb
end
end Mi
/-! expressions put together -/
namespace Mi
open PySem PySem.Spec PyProof.Rows L2

/-- the addresses of what slots hold -/
def Bs (σ : Sl) (σv : L2.St) (k : Kd) (a : Addr) : Prop := match k with
  | .brw i => ∃ o : O, σ[i]? = some (some (R.obj .own o)) ∧ σv[i]? = some (some (V.ref a))
  | _ => ∃ (i : Nat) (o : O), σ[i]? = some (some (R.obj .frz o)) ∧ σv[i]? = some (some (V.ref a))
section
variable (T : Tb) (X : Cx)
/-- what is wanted behind an outcome -/
def Aft {α β : Type} (D : Hp → Mu → Hp → α → β → Prop) (o : EO α) (μ : Mu) (H : Hp) (Q : β → Hp → Prop) : Prop := match o with
  | .ok a G' => ∀ μ' H' v, Ext (Kx X) μ H μ' H' → RepG T (Kx X) μ' G' H' → D H μ' H' a v → Q v H'
  | _ => False
/-- D may be reckoned from an earlier heap -/
def Bk {α β : Type} (D : Hp → Mu → Hp → α → β → Prop) : Prop := ∀ μ H μ1 H1 μ' H' a v, Ext (Kx X) μ H μ1 H1 → D H1 μ' H' a v → D H μ' H' a v
def DR (B : Kd → Addr → Prop) : Hp → Mu → Hp → R → V → Prop := fun H0 μ' H' r v => RD (Kx X) B H0 μ' H' r v
def DB : Hp → Mu → Hp → Bool → Bool → Prop := fun _ _ _ a b => a = b
def DWs : Hp → Mu → Hp → List W → List V → Prop := fun _ μ' H' ws vs => Dens (Kx X) μ' H' ws vs
/-- own ones apart -/
def Sep : List R → List V → Prop
  | r :: rs, v :: vs => (∀ o (j : Nat) o', r = .obj .own o → rs[j]? = some (.obj .own o') → vs[j]? ≠ some v) ∧ Sep rs vs
  | _, _ => True
def DRs (B : Kd → Addr → Prop) : Hp → Mu → Hp → List R → List V → Prop := fun H0 μ' H' rs vs => Paired (fun r v => RD (Kx X) B H0 μ' H' r v) rs vs ∧ Sep rs vs
end
section
variable {T : Tb} {X : Cx} {B : Kd → Addr → Prop} {μ μ1 : Mu} {G : Gp} {H H1 : Hp}
theorem bk_R : Bk X (DR X B) := fun _ _ _ _ _ _ _ _ e d => RD.back e d
theorem bk_B : Bk X DB := fun _ _ _ _ _ _ _ _ _ d => d
theorem bk_Ws : Bk X (DWs X) := fun _ _ _ _ _ _ _ _ _ d => d
theorem bk_Rs : Bk X (DRs X B) := fun _ _ _ _ _ _ _ _ e d => ⟨Paired.mapP d.1 fun _ _ d => RD.back e d, d.2⟩
theorem Aft.ext {α β : Type} {D : Hp → Mu → Hp → α → β → Prop} {o : EO α} {Q : β → Hp → Prop} (bk : Bk X D) (e : Ext (Kx X) μ H μ1 H1) (h : Aft T X D o μ H Q) : Aft T X D o μ1 H1 Q := by
  cases o with
  | ok a G' => exact fun μ' H' v e' g d => h μ' H' v (e.trans e') g (bk _ _ _ _ _ _ _ _ e d)
  | exc _ _ _ => exact h
  | bad => exact h
theorem Aft.inv {α γ β : Type} {D : Hp → Mu → Hp → β → γ → Prop} {o : EO α} {f : α → Gp → EO β} {Q : γ → Hp → Prop} (bk : Bk X D) (h : Aft T X D (o.bind f) μ H Q) :
    ∃ a G1, o = .ok a G1 ∧ ∀ μ1 H1, Ext (Kx X) μ H μ1 H1 → Aft T X D (f a G1) μ1 H1 Q := by
  cases o with
  | ok a G1 => exact ⟨a, G1, rfl, fun μ1 H1 e => Aft.ext bk e h⟩
  | exc _ _ _ => exact h.elim
  | bad => exact h.elim
theorem Aft.opt {α γ : Type} {D : Hp → Mu → Hp → α → γ → Prop} {o : Option α} {Q : γ → Hp → Prop} (h : Aft T X D (Mi.opt o G) μ H Q) :
    ∃ a, o = some a ∧ ∀ μ' H' v, Ext (Kx X) μ H μ' H' → RepG T (Kx X) μ' G H' → D H μ' H' a v → Q v H' := by
  cases o with
  | none => exact h.elim
  | some a => exact ⟨a, rfl, h⟩
end
section
variable (T : Tb) (X : Cx) (w : Wd)
def trE (e : E) : TE := fun σv H Q => ∃ μ σ G, RepG T (Kx X) μ G H ∧ RepE (Kx X) μ σ σv H ∧ Aft T X (DR X (Bs σ σv)) (ev w e σ G) μ H Q
def trT (e : E) : TT := fun σv H Q => ∃ μ σ G, RepG T (Kx X) μ G H ∧ RepE (Kx X) μ σ σv H ∧ Aft T X DB (evC w (some e) σ G) μ H Q
def trA (es : List E) : TA := fun σv H Q => ∃ μ σ G, RepG T (Kx X) μ G H ∧ RepE (Kx X) μ σ σv H ∧ Aft T X (DRs X (Bs σ σv)) (evs w es σ G) μ H Q
def trW (es : List E) : TA := fun σv H Q => ∃ μ σ G, RepG T (Kx X) μ G H ∧ RepE (Kx X) μ σ σv H ∧ Aft T X (DWs X) (evW w es σ G) μ H Q
end
section
variable {T : Tb} {X : Cx} {w : Wd} {a b c : Expr} {ea eb ec : E} {pos : Pos} {es : List Expr} {les : List E}
theorem RepE.slot {K : Kw} {μ : Mu} {σ : Sl} {σv : L2.St} {H H0 : Hp} {i : Nat} {r : R} (rs : RepE K μ σ σv H) (h : getS σ i = some r) : ∃ v, σv[i]? = some (some v) ∧ RD K (Bs σ σv) H0 μ H r v := by
  unfold getS at h
  split at h
  · rename_i o e
    cases h
    obtain ⟨v, h1, h2⟩ := rs.sl i _ e
    obtain ⟨a, e1, u, q1, q2, q3⟩ := h2
    exact ⟨v, h1, a, e1, u, q1, q2, q3, o, e, e1 ▸ h1⟩
  · rename_i r' hn e
    cases h
    obtain ⟨v, h1, h2⟩ := rs.sl i _ e
    refine ⟨v, h1, ?_⟩
    cases r with
    | val w => exact h2
    | exv _ _ => exact h2.elim
    | obj k o =>
      cases k with
      | own => exact absurd rfl (hn o)
      | brw => exact h2.elim
      | frz =>
        obtain ⟨a, e1, u, q1, q2, q3⟩ := h2
        exact ⟨a, e1, u, q1, q2, q3, i, o, e, e1 ▸ h1⟩
      | top => exact h2.elim
  · cases h
theorem tr_var {i : Nat} {x : Str} (hN : X.N[i]? = some x) (hv : Vis X.env.scope x) (hd : (x == ("__debug__" : Str)) = false) (hcd : (x == ("__classdict__" : Str)) = false) : PE X (.Name x pos) (trE T X w (.v i)) := by
  refine ⟨fun pins s σv H Q I h => ?_⟩
  obtain ⟨μ, σ, G, g, rs, h⟩ := h
  rw [ev] at h
  obtain ⟨r, e1, h⟩ := h.opt
  obtain ⟨v, e2, d⟩ := rs.slot (H0 := H) e1
  exact (pe_var hN hv hd hcd).run pins s σv H Q I ⟨v, e2, h μ H v Ext.refl g d⟩
/-- a constant's value -/
def constW : Const → Option W
  | .none => some .non
  | .bool b => some (.bl b)
  | .int i => some (.int i)
  | .str s => if s.cps.all (fun c => decide (c < 1114112)) then some (.str s.cps.toList) else none
  | _ => none
theorem tr_const {k : Const} {n : Nat} {x : W} (h : constW k = some x) : PE X (.Constant k n pos) (trE T X w (.c x)) := by
  refine ⟨fun pins s σv H Q I hw => ?_⟩
  obtain ⟨μ, σ, G, g, rs, hw⟩ := hw
  rw [ev] at hw
  cases k with
  | none => cases h; exact pe_non.run pins s σv H Q I (hw μ H _ Ext.refl g (.non))
  | bool b => cases h; exact pe_bl.run pins s σv H Q I (hw μ H _ Ext.refl g (.bl b))
  | int i => cases h; exact pe_int.run pins s σv H Q I (hw μ H _ Ext.refl g (.int i))
  | str z =>
    simp only [constW] at h
    split at h
    · rename_i hz
      cases h
      have e : z = tS z.cps.toList := by cases z; simp [tS]
      have ok : tOk z.cps.toList := by
        rw [← Array.all_toList] at hz
        intro c hc
        simpa using List.all_eq_true.mp hz c hc
      refine pe_str.run pins s σv H Q I (hw μ H _ Ext.refl g ?_)
      show Den _ _ _ _ _
      conv => rhs; rw [e]
      exact .str _ ok
    · cases h
  | _ => cases h
theorem tr_bin {op : Bop} (ha : PE X a (trE T X w ea)) (hb : PE X b (trE T X w eb)) : PE X (.BinOp a (bopOf op) b pos) (trE T X w (.bin op ea eb)) := by
  refine ⟨fun pins s σv H Q I h => ?_⟩
  obtain ⟨μ, σ, G, g, rs, h⟩ := h
  rw [ev] at h
  obtain ⟨x, G1, e1, k1⟩ := h.inv bk_R
  refine (pe_op (sem_bin (T := T) op) ha hb).run pins s σv H Q I ⟨μ, σ, G, g, rs, ?_⟩
  rw [e1]
  intro μ1 H1 v1 x1 g1 d1
  obtain ⟨y, G2, e2, k2⟩ := (k1 μ1 H1 x1).inv bk_R
  refine ⟨μ1, σ, G1, g1, rs.ext x1, ?_⟩
  rw [e2]
  intro μ2 H2 v2 x2 g2 d2
  obtain ⟨r, e3, k3⟩ := (k2 μ2 H2 x2).opt
  exact ⟨Bs σ σv, H, H1, μ2, G2, x, y, r, g2, RD.ext x2 d1, d2, e3, k3⟩
theorem tr_neg (ha : PE X a (trE T X w ea)) : PE X (.UnaryOp .USub a pos) (trE T X w (.neg ea)) := by
  refine ⟨fun pins s σv H Q I h => ?_⟩
  obtain ⟨μ, σ, G, g, rs, h⟩ := h
  rw [ev] at h
  obtain ⟨x, G1, e1, k1⟩ := h.inv bk_R
  refine (pe_un un_neg ha).run pins s σv H Q I ⟨μ, σ, G, g, rs, ?_⟩
  rw [e1]
  intro μ1 H1 v1 x1 g1 d1
  have k := k1 μ1 H1 x1
  unfold negR at k
  split at k
  · exact ⟨_, d1.val.intI, k μ1 H1 _ Ext.refl g1 (.int _)⟩
  · exact k.elim
/-- all comparisons' readings -/
theorem sem_cmp (hu : X.A.units + 65 < cLine) (op : Cop) : OpR X (compareOp (copOf op)) (rCmp T X op) := by
  cases op with
  | eq => exact sem_eq (by omega)
  | ne => exact sem_ne (by omega)
  | lt => exact sem_ord .lt (.inl rfl)
  | le => exact sem_ord .le (.inr (.inl rfl))
  | gt => exact sem_ord .gt (.inr (.inr (.inl rfl)))
  | ge => exact sem_ord .ge (.inr (.inr (.inr rfl)))
  | isn => exact sem_is
  | notn => exact sem_not
  | inn =>
    intro pins s σ H v1 v2 u1 u2 Q I r1 r2 h
    obtain ⟨B, H0, H0', μ, G, x, y, b, g, d1, d2, hb, q⟩ := h
    exact (in_read hu g I r1 r2 d1 d2 hb).1 q
  | nin =>
    intro pins s σ H v1 v2 u1 u2 Q I r1 r2 h
    obtain ⟨B, H0, H0', μ, G, x, y, b, g, d1, d2, hb, q⟩ := h
    simp only [cmpR, Option.map_eq_some_iff] at hb
    obtain ⟨b', hb, rfl⟩ := hb
    exact (in_read hu g I r1 r2 d1 d2 hb).2 q
theorem Aft.boolR {D : Hp → Mu → Hp → R → V → Prop} {o : Option Bool} {μ : Mu} {G : Gp} {H : Hp} {Q : VK} {B : Kd → Addr → Prop} (h : Aft T X (DR X B) (boolR o G) μ H Q) (g : RepG T (Kx X) μ G H) : ∃ b, o = some b ∧ Q (.bl b) H := by
  cases o with
  | none => exact h.elim
  | some b => exact ⟨b, rfl, h μ H _ Ext.refl g (.bl b)⟩
theorem tr_cmp {op : Cop} (hu : X.A.units + 65 < cLine) (hb' : behindInMarks (copOf op) b = false) (ha : PE X a (trE T X w ea)) (hb : PE X b (trE T X w eb)) : PE X (.Compare a [copOf op] [b] pos) (trE T X w (.cmp op ea eb)) := by
  refine ⟨fun pins s σv H Q I h => ?_⟩
  obtain ⟨μ, σ, G, g, rs, h⟩ := h
  rw [ev] at h
  obtain ⟨x, G1, e1, k1⟩ := h.inv bk_R
  refine (pe_cmpR (sem_cmp (T := T) hu op) ha hb hb').run pins s σv H Q I ⟨μ, σ, G, g, rs, ?_⟩
  rw [e1]
  intro μ1 H1 v1 x1 g1 d1
  obtain ⟨y, G2, e2, k2⟩ := (k1 μ1 H1 x1).inv bk_R
  refine ⟨μ1, σ, G1, g1, rs.ext x1, ?_⟩
  rw [e2]
  intro μ2 H2 v2 x2 g2 d2
  obtain ⟨r, e3, k3⟩ := (k2 μ2 H2 x2).boolR (D := DR X (Bs σ σv)) g2
  exact ⟨Bs σ σv, H, H1, μ2, G2, x, y, r, g2, RD.ext x2 d1, d2, e3, k3⟩
end
end Mi
/-! expressions put together, on -/
namespace Mi
open PySem PySem.Spec PyProof.Rows L2
section
variable {T : Tb} {X : Cx} {w : Wd} {a b c : Expr} {ea eb ec : E} {pos p2 : Pos} {es : List Expr} {les : List E}
theorem condL_some {r : R} {k : Bool} (h : condL r = some k) : r = .val (.bl k) := by
  unfold condL at h
  split at h
  · cases h; rfl
  · cases h
theorem tr_chain {o1 o2 : Cop} (hu : X.A.units + 65 < cLine) (ha : PE X a (trE T X w ea)) (hb : PE X b (trE T X w eb)) (hc : PE X c (trE T X w ec))
    (hm : lastMarks [copOf o1, copOf o2] [b, c] = false) : PE X (.Compare a [copOf o1, copOf o2] [b, c] pos) (trE T X w (.chain o1 o2 ea eb ec)) := by
  refine ⟨fun pins s σv H Q I h => ?_⟩
  obtain ⟨μ, σ, G, g, rs, h⟩ := h
  rw [ev] at h
  obtain ⟨x, G1, e1, k1⟩ := h.inv bk_R
  refine (pe_chain (sem_cmp (T := T) hu o1) (sem_cmp (T := T) hu o2) ha hb hc (hm := hm)).run pins s σv H Q I ⟨μ, σ, G, g, rs, ?_⟩
  rw [e1]
  intro μ1 H1 v1 x1 g1 d1
  obtain ⟨y, G2, e2, k2⟩ := (k1 μ1 H1 x1).inv bk_R
  refine ⟨μ1, σ, G1, g1, rs.ext x1, ?_⟩
  rw [e2]
  intro μ2 H2 v2 x2 g2 d2
  obtain ⟨k, G3, e3, k3⟩ := (k2 μ2 H2 x2).inv bk_R
  cases hk : cmpR o1 G2 x y with
  | none => rw [hk] at e3; cases e3
  | some kk =>
    rw [hk] at e3
    cases e3
    refine ⟨Bs σ σv, H, H1, μ2, G2, x, y, k, g2, RD.ext x2 d1, d2, hk, k, rfl, ?_⟩
    have k4 := k3 μ2 H2 Ext.refl
    cases k with
    | false => exact k4 μ2 H2 _ Ext.refl g2 (.bl false)
    | true =>
      simp only [if_true] at k4 ⊢
      obtain ⟨z, G4, e4, k5⟩ := k4.inv bk_R
      refine ⟨μ2, σ, G2, g2, (rs.ext x1).ext x2, ?_⟩
      rw [e4]
      intro μ4 H4 v4 x4 g4 d4
      obtain ⟨r, e5, k6⟩ := (k5 μ4 H4 x4).boolR (D := DR X (Bs σ σv)) g4
      exact ⟨Bs σ σv, H1, H2, μ4, G4, y, z, r, g4, RD.ext x4 d2, d4, e5, k6⟩
theorem tr_and {rest : List Expr} (ha : PE X a (trE T X w ea)) (hb : PE X (.BoolOp .And (b :: rest) pos) (trE T X w eb)) : PE X (.BoolOp .And (a :: b :: rest) pos) (trE T X w (.and ea eb)) := by
  refine ⟨fun pins s σv H Q I h => ?_⟩
  obtain ⟨μ, σ, G, g, rs, h⟩ := h
  rw [ev] at h
  obtain ⟨x, G1, e1, k1⟩ := h.inv bk_R
  refine (pe_and ha hb).run pins s σv H Q I ⟨μ, σ, G, g, rs, ?_⟩
  rw [e1]
  intro μ1 H1 v1 x1 g1 d1
  obtain ⟨k, G2, e2, k2⟩ := (k1 μ1 H1 x1).inv bk_R
  cases hk : condL x with
  | none => rw [hk] at e2; cases e2
  | some kk =>
    rw [hk] at e2; cases e2
    have e3 := condL_some hk
    subst e3
    have k4 := k2 μ1 H1 Ext.refl
    refine ⟨k, d1.val.blI, ?_⟩
    cases k with
    | false => exact k4 μ1 H1 _ Ext.refl g1 (.bl false)
    | true => exact ⟨μ1, σ, G1, g1, rs.ext x1, k4⟩
theorem tr_or {rest : List Expr} (ha : PE X a (trE T X w ea)) (hb : PE X (.BoolOp .Or (b :: rest) pos) (trE T X w eb)) : PE X (.BoolOp .Or (a :: b :: rest) pos) (trE T X w (.or ea eb)) := by
  refine ⟨fun pins s σv H Q I h => ?_⟩
  obtain ⟨μ, σ, G, g, rs, h⟩ := h
  rw [ev] at h
  obtain ⟨x, G1, e1, k1⟩ := h.inv bk_R
  refine (pe_or ha hb).run pins s σv H Q I ⟨μ, σ, G, g, rs, ?_⟩
  rw [e1]
  intro μ1 H1 v1 x1 g1 d1
  obtain ⟨k, G2, e2, k2⟩ := (k1 μ1 H1 x1).inv bk_R
  cases hk : condL x with
  | none => rw [hk] at e2; cases e2
  | some kk =>
    rw [hk] at e2; cases e2
    have e3 := condL_some hk
    subst e3
    have k4 := k2 μ1 H1 Ext.refl
    refine ⟨k, d1.val.blI, ?_⟩
    cases k with
    | true => exact k4 μ1 H1 _ Ext.refl g1 (.bl true)
    | false => exact ⟨μ1, σ, G1, g1, rs.ext x1, k4⟩
theorem tr_not (ha : PE X a (trE T X w ea)) : PE X (.UnaryOp .Not a pos) (trE T X w (.not ea)) := by
  refine ⟨fun pins s σv H Q I h => ?_⟩
  obtain ⟨μ, σ, G, g, rs, h⟩ := h
  rw [ev] at h
  obtain ⟨x, G1, e1, k1⟩ := h.inv bk_R
  refine (pe_not ha).run pins s σv H Q I ⟨μ, σ, G, g, rs, ?_⟩
  rw [e1]
  intro μ1 H1 v1 x1 g1 d1
  obtain ⟨k, G2, e2, k2⟩ := (k1 μ1 H1 x1).inv bk_R
  cases hk : condL x with
  | none => rw [hk] at e2; cases e2
  | some kk =>
    rw [hk] at e2; cases e2
    have e3 := condL_some hk
    subst e3
    exact ⟨k, d1.val.blI, k2 μ1 H1 Ext.refl μ1 H1 _ Ext.refl g1 (.bl _)⟩
/-! ### tests -/
theorem trT_of {σv : L2.St} {H : Hp} {Q : Bool → Hp → Prop} (h : trT T X w ea σv H Q) : trE T X w ea σv H fun v H1 => ∃ k, v = .bl k ∧ Q k H1 := by
  obtain ⟨μ, σ, G, g, rs, h⟩ := h
  rw [evC] at h
  obtain ⟨x, G1, e1, k1⟩ := h.inv bk_B
  refine ⟨μ, σ, G, g, rs, ?_⟩
  rw [e1]
  intro μ1 H1 v1 x1 g1 d1
  obtain ⟨k, e2, k2⟩ := (k1 μ1 H1 x1).opt
  have e3 := condL_some e2
  subst e3
  exact ⟨k, d1.val.blI, k2 μ1 H1 k Ext.refl g1 rfl⟩
/-- a test that is an expression's truth -/
theorem tt_val (ha : PE X a (trE T X w ea)) (he : ∀ whole, isTrue a X.env whole = (do let v ← whole; standAt a.pos; holding [v] (truthy v))) : PT X a (trT T X w ea) :=
  ⟨fun pins s σv H Q I h => (pt_val ha he).run pins s σv H Q I (trT_of h)⟩
theorem tt_cmp {op : Cop} (hu : X.A.units + 65 < cLine) (hb' : behindInMarks (copOf op) b = false) (ha : PE X a (trE T X w ea)) (hb : PE X b (trE T X w eb)) : PT X (.Compare a [copOf op] [b] pos) (trT T X w (.cmp op ea eb)) := by
  refine ⟨fun pins s σv H Q I h => ?_⟩
  obtain ⟨μ, σ, G, g, rs, h⟩ := trT_of h
  rw [ev] at h
  obtain ⟨x, G1, e1, k1⟩ := h.inv bk_R
  refine (pt_cmpR (sem_cmp (T := T) hu op) ha hb hb').run pins s σv H Q I ⟨μ, σ, G, g, rs, ?_⟩
  rw [e1]
  intro μ1 H1 v1 x1 g1 d1
  obtain ⟨y, G2, e2, k2⟩ := (k1 μ1 H1 x1).inv bk_R
  refine ⟨μ1, σ, G1, g1, rs.ext x1, ?_⟩
  rw [e2]
  intro μ2 H2 v2 x2 g2 d2
  obtain ⟨r, e3, k3⟩ := (k2 μ2 H2 x2).boolR (D := DR X (Bs σ σv)) g2
  exact ⟨Bs σ σv, H, H1, μ2, G2, x, y, r, g2, RD.ext x2 d1, d2, e3, k3⟩
theorem tt_chain {o1 o2 : Cop} (hu : X.A.units + 65 < cLine) (ha : PE X a (trE T X w ea)) (hb : PE X b (trE T X w eb)) (hc : PE X c (trE T X w ec))
    (hm : lastMarks [copOf o1, copOf o2] [b, c] = false) : PT X (.Compare a [copOf o1, copOf o2] [b, c] pos) (trT T X w (.chain o1 o2 ea eb ec)) := by
  refine ⟨fun pins s σv H Q I h => ?_⟩
  obtain ⟨μ, σ, G, g, rs, h⟩ := trT_of h
  rw [ev] at h
  obtain ⟨x, G1, e1, k1⟩ := h.inv bk_R
  refine (pt_chain (sem_cmp (T := T) hu o1) (sem_cmp (T := T) hu o2) ha hb hc (hm := hm)).run pins s σv H Q I ⟨μ, σ, G, g, rs, ?_⟩
  rw [e1]
  intro μ1 H1 v1 x1 g1 d1
  obtain ⟨y, G2, e2, k2⟩ := (k1 μ1 H1 x1).inv bk_R
  refine ⟨μ1, σ, G1, g1, rs.ext x1, ?_⟩
  rw [e2]
  intro μ2 H2 v2 x2 g2 d2
  obtain ⟨k, G3, e3, k3⟩ := (k2 μ2 H2 x2).inv bk_R
  cases hk : cmpR o1 G2 x y with
  | none => rw [hk] at e3; cases e3
  | some kk =>
    rw [hk] at e3
    cases e3
    refine ⟨Bs σ σv, H, H1, μ2, G2, x, y, k, g2, RD.ext x2 d1, d2, hk, k, rfl, ?_⟩
    have k4 := k3 μ2 H2 Ext.refl
    cases k with
    | false => exact k4 μ2 H2 _ Ext.refl g2 (.bl false)
    | true =>
      simp only [if_true] at k4 ⊢
      obtain ⟨z, G4, e4, k5⟩ := k4.inv bk_R
      refine ⟨μ2, σ, G2, g2, (rs.ext x1).ext x2, ?_⟩
      rw [e4]
      intro μ4 H4 v4 x4 g4 d4
      obtain ⟨r, e5, k6⟩ := (k5 μ4 H4 x4).boolR (D := DR X (Bs σ σv)) g4
      exact ⟨Bs σ σv, H1, H2, μ4, G4, y, z, r, g4, RD.ext x4 d2, d4, e5, k6⟩
theorem trT_ok {e : E} {μ : Mu} {σ : Sl} {σv : L2.St} {G : Gp} {H : Hp} {Q : Bool → Hp → Prop} (g : RepG T (Kx X) μ G H) (rs : RepE (Kx X) μ σ σv H) {k : Bool} {G' : Gp} (h : ev w e σ G = .ok (.val (.bl k)) G')
    (q : ∀ μ' H', Ext (Kx X) μ H μ' H' → RepG T (Kx X) μ' G' H' → Q k H') : trT T X w e σv H Q := by
  refine ⟨μ, σ, G, g, rs, ?_⟩
  rw [evC, h]
  intro μ' H' v e' g' d
  cases d
  exact q μ' H' e' g'
theorem trT_bool {e : E} {σv : L2.St} {H : Hp} {Q : Bool → Hp → Prop} (h : trT T X w e σv H Q) : ∃ μ σ G k G', RepG T (Kx X) μ G H ∧ RepE (Kx X) μ σ σv H ∧ ev w e σ G = .ok (.val (.bl k)) G' ∧ ∀ μ' H', Ext (Kx X) μ H μ' H' → RepG T (Kx X) μ' G' H' → Q k H' := by
  obtain ⟨μ, σ, G, g, rs, h⟩ := h
  rw [evC] at h
  cases he : ev w e σ G with
  | ok x G1 =>
    rw [he] at h
    have h' : Aft T X DB (Mi.opt (condL x) G1) μ H Q := h
    obtain ⟨k, e2, k2⟩ := h'.opt
    have e3 := condL_some e2
    subst e3
    exact ⟨μ, σ, G, k, G1, g, rs, he, fun μ' H' e' g' => k2 μ' H' k e' g' rfl⟩
  | exc _ _ _ => rw [he] at h; exact h.elim
  | bad => rw [he] at h; exact h.elim
theorem EO.bind_ok {α β : Type} {x : EO α} {f : α → Gp → EO β} {r : β} {G : Gp} (h : x.bind f = .ok r G) : ∃ a G1, x = .ok a G1 ∧ f a G1 = .ok r G := by
  cases x with
  | ok a G1 => exact ⟨a, G1, rfl, h⟩
  | exc _ _ _ => cases h
  | bad => cases h
theorem opt_ok {α : Type} {x : Option α} {a : α} {G G1 : Gp} (h : Mi.opt x G = .ok a G1) : x = some a ∧ G1 = G := by
  cases x with
  | none => cases h
  | some _ => cases h; exact ⟨rfl, rfl⟩
theorem tt_not (ha : PT X a (trT T X w ea)) : PT X (.UnaryOp .Not a pos) (trT T X w (.not ea)) := by
  refine ⟨fun pins s σv H Q I h => ?_⟩
  obtain ⟨μ, σ, G, k, G', g, rs, he, q⟩ := trT_bool h
  rw [ev] at he
  obtain ⟨x, G1, e1, h1⟩ := EO.bind_ok he
  obtain ⟨k1, G2, e2, h2⟩ := EO.bind_ok h1
  obtain ⟨e3, rfl⟩ := opt_ok e2
  have e4 := condL_some e3
  subst e4
  cases h2
  exact (pt_not ha).run pins s σv H Q I (trT_ok g rs e1 fun μ' H' e' g' => q μ' H' e' g')
theorem tw_and1 (ha : PT X a (trT T X w ea)) : PW X (.BoolOp .And [a] pos) (trT T X w ea) := pw_and1 ha
theorem tw_or1 (ha : PT X a (trT T X w ea)) : PW X (.BoolOp .Or [a] pos) (trT T X w ea) := pw_or1 ha
theorem tw_and {rest : List Expr} (ha : PT X a (trT T X w ea)) (hb : PW X (.BoolOp .And (b :: rest) pos) (trT T X w eb)) : PW X (.BoolOp .And (a :: b :: rest) pos) (trT T X w (.and ea eb)) := by
  refine ⟨fun wh pins s σv H Q I h => ?_⟩
  obtain ⟨μ, σ, G, k, G', g, rs, he, q⟩ := trT_bool h
  rw [ev] at he
  obtain ⟨x, G1, e1, h1⟩ := EO.bind_ok he
  obtain ⟨k1, G2, e2, h2⟩ := EO.bind_ok h1
  obtain ⟨e3, rfl⟩ := opt_ok e2
  have e4 := condL_some e3
  subst e4
  refine (pw_and ha hb).run wh pins s σv H Q I (trT_ok g rs e1 fun μ' H' e' g' => ?_)
  cases k1 with
  | false => cases h2; exact q μ' H' e' g'
  | true => exact trT_ok g' (rs.ext e') h2 fun μ2 H2 e2 g2 => q μ2 H2 (e'.trans e2) g2
theorem tw_or {rest : List Expr} (ha : PT X a (trT T X w ea)) (hb : PW X (.BoolOp .Or (b :: rest) pos) (trT T X w eb)) : PW X (.BoolOp .Or (a :: b :: rest) pos) (trT T X w (.or ea eb)) := by
  refine ⟨fun wh pins s σv H Q I h => ?_⟩
  obtain ⟨μ, σ, G, k, G', g, rs, he, q⟩ := trT_bool h
  rw [ev] at he
  obtain ⟨x, G1, e1, h1⟩ := EO.bind_ok he
  obtain ⟨k1, G2, e2, h2⟩ := EO.bind_ok h1
  obtain ⟨e3, rfl⟩ := opt_ok e2
  have e4 := condL_some e3
  subst e4
  refine (pw_or ha hb).run wh pins s σv H Q I (trT_ok g rs e1 fun μ' H' e' g' => ?_)
  cases k1 with
  | true => cases h2; exact q μ' H' e' g'
  | false => exact trT_ok g' (rs.ext e') h2 fun μ2 H2 e2 g2 => q μ2 H2 (e'.trans e2) g2
theorem tr_ite (hc : PT X c (trT T X w ec)) (ha : PE X a (trE T X w ea)) (hb : PE X b (trE T X w eb)) : PE X (.IfExp c a b pos) (trE T X w (.ite ec ea eb)) := by
  refine ⟨fun pins s σv H Q I h => ?_⟩
  obtain ⟨μ, σ, G, g, rs, h⟩ := h
  rw [ev] at h
  obtain ⟨x, G1, e1, k1⟩ := h.inv bk_R
  have hk : ∃ k, x = .val (.bl k) ∧ ∀ μ1 H1, Ext (Kx X) μ H μ1 H1 → Aft T X (DR X (Bs σ σv)) (if k = true then ev w ea σ G1 else ev w eb σ G1) μ1 H1 Q := by
    obtain ⟨k, G2, e2, k2⟩ := (k1 μ H Ext.refl).inv bk_R
    obtain ⟨e3, rfl⟩ := opt_ok e2
    refine ⟨k, condL_some e3, fun μ1 H1 x1 => k2 μ1 H1 x1⟩
  obtain ⟨k, rfl, k2⟩ := hk
  refine (pe_ifExp hc ha hb).run pins s σv H Q I (trT_ok g rs e1 fun μ1 H1 x1 g1 => ?_)
  have k3 := k2 μ1 H1 x1
  cases k with
  | true => exact ⟨μ1, σ, G1, g1, rs.ext x1, k3⟩
  | false => exact ⟨μ1, σ, G1, g1, rs.ext x1, k3⟩
end
end Mi
/-! argument lists, displays, subscripts, built-in calls -/
namespace Mi
open PySem PySem.Spec PyProof.Rows L2
def notStar : Expr → Bool
  | .Starred _ _ => false
  | _ => true
theorem star_cons {e : Expr} {es : List Expr} {env : Env} (h : notStar e = true) : starEach (e :: es) env = (false, eval e env) :: starEach es env := by
  cases e <;> first | rfl | (simp [notStar] at h)
def notSlice : Expr → Bool
  | .Slice _ _ _ _ => false
  | _ => true
theorem plain_ix {b : Expr} (h : notSlice b = true) : PlainIx b := by
  intro o i
  cases b <;> first | rfl | (simp [notSlice] at h)
theorem Aft.done {α β : Type} {T : Tb} {X : Cx} {μ : Mu} {H : Hp} {D : Hp → Mu → Hp → α → β → Prop} {o : EO α} {Q : β → Hp → Prop} (h : Aft T X D o μ H Q) :
    ∃ a G', o = .ok a G' ∧ ∀ μ' H' v, Ext (Kx X) μ H μ' H' → RepG T (Kx X) μ' G' H' → D H μ' H' a v → Q v H' := by
  cases o with
  | ok a G' => exact ⟨a, G', rfl, h⟩
  | exc _ _ _ => exact h.elim
  | bad => exact h.elim
section
variable {T : Tb} {X : Cx} {w : Wd} {a b c : Expr} {ea eb ec : E} {pos p2 : Pos} {es : List Expr} {les : List E}
theorem ta_nil : PA X [] (trA T X w []) := by
  refine ⟨fun p pins s σv H Q I h => ?_⟩
  obtain ⟨μ, σ, G, g, rs, h⟩ := h
  rw [evs] at h
  exact pa_nil.run p pins s σv H Q I (h μ H [] Ext.refl g ⟨.nil, trivial⟩)
theorem ta_cons (hs : notStar a = true) (ha : PE X a (trE T X w ea)) (hr : PA X es (trA T X w les)) : PA X (a :: es) (trA T X w (ea :: les)) := by
  refine ⟨fun p pins s σv H Q I h => ?_⟩
  obtain ⟨μ, σ, G, g, rs, h⟩ := h
  rw [evs] at h
  obtain ⟨x, G1, e1, k1⟩ := h.inv bk_Rs
  refine (pa_cons ha hr (star_cons hs)).run p pins s σv H Q I ⟨μ, σ, G, g, rs, ?_⟩
  rw [e1]
  intro μ1 H1 v1 x1 g1 d1
  obtain ⟨ys, G2, e2, k2⟩ := (k1 μ1 H1 x1).inv bk_Rs
  refine ⟨μ1, σ, G1, g1, rs.ext x1, ?_⟩
  rw [e2]
  intro μ2 H2 vs x2 g2 d2
  -- reckoned from the start
  have h0 := h
  rw [e1] at h0
  have h1 : Aft T X (DRs X (Bs σ σv)) ((evs w les σ G1).bind fun xs G => EO.ok (x :: xs) G) μ H Q := h0
  rw [e2] at h1
  refine h1 μ2 H2 (v1 :: vs) (x1.trans x2) g2 ⟨.cons (RD.ext x2 d1) (Paired.mapP d2.1 fun _ _ d => RD.back x1 d), ?_, d2.2⟩
  intro o j o' hx hj hv
  subst hx
  obtain ⟨pa, u, ev1, hu, _⟩ := d1
  have q : ∀ {rs : List R} {vs : List V} {j : Nat} {r : R} {v : V}, Paired (fun r v => RD (Kx X) (Bs σ σv) H1 μ2 H2 r v) rs vs → rs[j]? = some r → vs[j]? = some v → RD (Kx X) (Bs σ σv) H1 μ2 H2 r v := by
    intro rs
    induction rs with
    | nil => intro vs j r v _ h; simp at h
    | cons r0 rs ih =>
      intro vs j r v pr h1 h2
      cases pr with
      | cons pa pb =>
        cases j with
        | zero => simp at h1 h2; subst h1 h2; exact pa
        | succ j => exact ih pb (by simpa using h1) (by simpa using h2)
  obtain ⟨pb, u2, ev2, _, _, _, h0n⟩ := q d2.1 hj hv
  rw [ev1] at ev2
  cases ev2
  rw [hu] at h0n
  cases h0n
/-- what is laid into another object is shared from then on -/
theorem box {K : Kw} {B : Kd → Addr → Prop} {μ μ1 : Mu} {G1 G2 : Gp} {H H1 : Hp} {r : R} {x : W} {v : V} (g : RepG T K μ1 G1 H1) (e : Ext K μ H μ1 H1) (d : RD K B H μ1 H1 r v) (h : toW r G1 = .ok x G2) :
    ∃ μ2, RepG T K μ2 G2 H1 ∧ Ext K μ H μ2 H1 ∧ Den K μ2 H1 x v ∧ Gro K μ1 H1 μ2 H1 := by
  unfold toW at h
  split at h
  · cases h
    exact ⟨μ1, g, e, d, ⟨fun _ _ h => h, fun _ _ h => h⟩⟩
  · rename_i o
    cases h
    obtain ⟨a, u, e1, hu, od, hn, h0⟩ := d
    subst e1
    have gr : Gro K μ1 H1 (μ1 ++ [(false, a)]) H1 := ⟨fun i y hi => by
      rw [List.getElem?_append_left (List.getElem?_eq_some_iff.mp hi).1]; exact hi, fun _ _ h => h⟩
    refine ⟨μ1 ++ [(false, a)], ⟨by simp [g.len], fun i j b hi hj => ?_, fun i go b hg hi => ?_⟩, ⟨fun i y hi => gr.pre i y (e.pre i y hi), fun b hb hn' => ?_, fun b o hb hn' => e.keep b o hb hn', e.tup, e.grow, e.frz⟩, .ref (k := false) (by rw [← g.len]; simp), gr⟩
    · have one : ∀ i, (μ1 ++ [(false, a)])[i]? = some (false, b) → μ1[i]? = some (false, b) ∨ (i = μ1.length ∧ b = a) := by
        intro i hi
        by_cases hl : i < μ1.length
        · rw [List.getElem?_append_left hl] at hi; exact .inl hi
        · rw [List.getElem?_append_right (by omega)] at hi
          have : i - μ1.length = 0 := by
            by_cases z : i - μ1.length = 0
            · exact z
            · rw [List.getElem?_eq_none (by simp; omega)] at hi; cases hi
          rw [this] at hi
          simp at hi
          exact .inr ⟨by omega, hi.symm⟩
      rcases one i hi with h1 | ⟨h1, h1'⟩
      · rcases one j hj with h2 | ⟨h2, h2'⟩
        · exact g.nd i j b h1 h2
        · subst h2'; exact absurd (List.mem_of_getElem? h1) hn
      · rcases one j hj with h2 | ⟨h2, h2'⟩
        · subst h1'; exact absurd (List.mem_of_getElem? h2) hn
        · omega
    · by_cases hl : i < G1.length
      · rw [List.getElem?_append_left hl] at hg
        rw [List.getElem?_append_left (by rw [g.len]; exact hl)] at hi
        have q := g.ob i go b hg hi
        obtain ⟨k, b⟩ := b
        cases k with
        | false =>
          cases go with
          | obj o => obtain ⟨u, h1, h2⟩ := q; exact ⟨u, h1, h2.mono gr⟩
          | frz o => obtain ⟨u, h1, h2⟩ := q; exact ⟨u, h1, h2.mono gr⟩
          | ins c fs => obtain ⟨dx, fv, h1, h2⟩ := q; exact ⟨dx, fv, h1, h2.mono gr⟩
        | true =>
          cases go with
          | obj o => exact q
          | frz o => exact KL.mono gr q
          | ins c fs => exact q
      · rw [List.getElem?_append_right (by omega)] at hg
        rw [List.getElem?_append_right (by rw [g.len]; omega), g.len] at hi
        have : i - G1.length = 0 := by
          by_cases z : i - G1.length = 0
          · exact z
          · rw [List.getElem?_eq_none (by simp; omega)] at hg; cases hg
        rw [this] at hg hi
        simp at hg hi
        subst hg hi
        exact ⟨u, hu, od.mono gr⟩
    · rcases List.mem_append.mp hb with hb | hb
      · exact e.new b hb hn'
      · rw [List.mem_singleton] at hb
        cases hb
        exact h0
  · cases h
theorem tw_nil : PA X [] (trW T X w []) := by
  refine ⟨fun p pins s σv H Q I h => ?_⟩
  obtain ⟨μ, σ, G, g, rs, h⟩ := h
  rw [evW] at h
  exact pa_nil.run p pins s σv H Q I (h μ H [] Ext.refl g .nil)
theorem tw_cons (hs : notStar a = true) (ha : PE X a (trE T X w ea)) (hr : PA X es (trW T X w les)) : PA X (a :: es) (trW T X w (ea :: les)) := by
  refine ⟨fun p pins s σv H Q I h => ?_⟩
  obtain ⟨μ, σ, G, g, rs, h⟩ := h
  rw [evW] at h
  obtain ⟨x, G1, e1, k1⟩ := h.inv bk_Ws
  refine (pa_cons ha hr (star_cons hs)).run p pins s σv H Q I ⟨μ, σ, G, g, rs, ?_⟩
  rw [e1]
  intro μ1 H1 v1 x1 g1 d1
  obtain ⟨wx, G2, e2, k2⟩ := (k1 μ1 H1 x1).inv bk_Ws
  obtain ⟨μ2, g2, x2, dx, gr⟩ := box g1 x1 d1 e2
  have h1 : Aft T X (DWs X) ((evW w les σ G2).bind fun xs G => EO.ok (wx :: xs) G) μ H Q := by
    have h0 := h
    rw [e1] at h0
    have h0 : Aft T X (DWs X) ((toW x G1).bind fun x G => (evW w les σ G).bind fun xs G => EO.ok (x :: xs) G) μ H Q := h0
    rw [e2] at h0
    exact h0
  have h2 := Aft.ext bk_Ws x2 h1
  obtain ⟨ws, G3, e3, k3⟩ := h2.inv bk_Ws
  refine ⟨μ2, σ, G2, g2, rs.ext x2, ?_⟩
  rw [e3]
  intro μ3 H3 vs x3 g3 d3
  exact k3 μ3 H3 x3 μ3 H3 (v1 :: vs) Ext.refl g3 (.cons (dx.mono x3.gro) d3)
theorem tr_lst (h : PA X es (trW T X w les)) : PE X (.List es pos) (trE T X w (.lst les)) := by
  refine ⟨fun pins s σv H Q I hw => ?_⟩
  obtain ⟨μ, σ, G, g, rs, hw⟩ := hw
  rw [ev] at hw
  obtain ⟨ws, G1, e1, k1⟩ := hw.inv bk_R
  refine (pe_lst h).run pins s σv H Q I ⟨μ, σ, G, g, rs, ?_⟩
  rw [e1]
  intro μ1 H1 vs x1 g1 d1
  have k := k1 μ1 H1 x1
  unfold lstR at k
  split at k
  · rename_i hz
    have hl : ws.length = vs.length := Dens.length d1
    exact ⟨by rw [← hl, ← sizeL_eq]; exact hz, fun p hp => k μ1 _ _ (Ext.laid hp) (g1.laid hp) (RD.newL g1 hp d1)⟩
  · exact k.elim
theorem tr_tup {n : Nat} (h : PA X es (trW T X w les)) : PE X (.Tuple es n pos) (trE T X w (.tup les)) := by
  refine ⟨fun pins s σv H Q I hw => ?_⟩
  obtain ⟨μ, σ, G, g, rs, hw⟩ := hw
  rw [ev] at hw
  obtain ⟨ws, G1, e1, k1⟩ := hw.inv bk_R
  refine (pe_tup h).run pins s σv H Q I ⟨μ, σ, G, g, rs, ?_⟩
  rw [e1]
  intro μ1 H1 vs x1 g1 d1
  have k := k1 μ1 H1 x1
  unfold tupR at k
  split at k
  · rename_i hz
    have hl : ws.length = vs.length := Dens.length d1
    exact ⟨by rw [← hl, ← sizeL_eq]; exact hz, fun p hp => k μ1 _ _ (Ext.laid hp) (g1.laid hp) (RD.newT hp d1)⟩
  · exact k.elim
theorem tr_idx (hu : X.A.units + 65 < cLine) (hs : notSlice b = true) (ha : PE X a (trE T X w ea)) (hb : PE X b (trE T X w eb)) : PE X (.Subscript a b pos) (trE T X w (.idx ea eb)) := by
  refine ⟨fun pins s σv H Q I h => ?_⟩
  obtain ⟨μ, σ, G, g, rs, h⟩ := h
  rw [ev] at h
  obtain ⟨x, G1, e1, k1⟩ := h.inv bk_R
  refine (pe_ix (sem_idx (T := T) hu) ha hb (plain_ix hs)).run pins s σv H Q I ⟨μ, σ, G, g, rs, ?_⟩
  rw [e1]
  intro μ1 H1 v1 x1 g1 d1
  obtain ⟨y, G2, e2, k2⟩ := (k1 μ1 H1 x1).inv bk_R
  refine ⟨μ1, σ, G1, g1, rs.ext x1, ?_⟩
  rw [e2]
  intro μ2 H2 v2 x2 g2 d2
  obtain ⟨r, e3, k3⟩ := (k2 μ2 H2 x2).opt
  rw [Option.map_eq_some_iff] at e3
  obtain ⟨wv, e4, e5⟩ := e3
  subst e5
  exact ⟨Bs σ σv, H, H1, μ2, G2, x, y, wv, g2, RD.ext x2 d1, d2, e4, fun v d => k3 μ2 H2 v Ext.refl g2 d⟩
/-! ### slices -/
def trO (T : Tb) (X : Cx) (w : Wd) (o : Option E) : TO := fun σv H Q => ∃ μ σ G, RepG T (Kx X) μ G H ∧ RepE (Kx X) μ σ σv H ∧ ∃ r G', evO w o σ G = .ok r G' ∧ (∀ x, r = some x → ∃ i, x = .val (.int i)) ∧ ∀ μ' H' j, Ext (Kx X) μ H μ' H' → RepG T (Kx X) μ' G' H' → EndD (Kx X) (Bs σ σv) H μ' H' r j → Q j H'
theorem to_none : PO X none (trO T X w none) := by
  refine ⟨fun pins s σv H Q I h => ?_⟩
  obtain ⟨μ, σ, G, g, rs, r, G', e, _, q⟩ := h
  rw [evO] at e
  cases e
  exact po_none.run pins s σv H Q I (q μ H none Ext.refl g trivial)
theorem to_some (ha : PE X a (trE T X w ea)) : PO X (some a) (trO T X w (some ea)) := by
  refine ⟨fun pins s σv H Q I h => ?_⟩
  obtain ⟨μ, σ, G, g, rs, r, G', e, hi, q⟩ := h
  rw [evO] at e
  obtain ⟨x, G1, e1, h1⟩ := EO.bind_ok e
  cases h1
  obtain ⟨i, rfl⟩ := hi x rfl
  refine (po_some ha).run pins s σv H Q I ⟨μ, σ, G, g, rs, ?_⟩
  rw [e1]
  intro μ1 H1 v1 x1 g1 d1
  exact ⟨i, d1.val.intI, q μ1 H1 (some i) x1 g1 rfl⟩
theorem end_int {d n : Nat} {o : Option R} {k : Nat} (h : endOf d n o = some k) : ∀ x, o = some x → ∃ i, x = .val (.int i) := by
  intro x e
  subst e
  cases x with
  | val w => cases w with
    | int i => exact ⟨i, rfl⟩
    | _ => cases h
  | obj _ _ => cases h
  | exv _ _ => cases h
theorem slc_ends {G : Gp} {x : R} {lo hi : Option R} {r : R} (h : slcR G x lo hi = some r) : (∀ y, lo = some y → ∃ i, y = .val (.int i)) ∧ ∀ y, hi = some y → ∃ i, y = .val (.int i) := by
  have fin : ∀ {α : Type} {a b : Option Nat} {f : Nat → Nat → α} {r : α}, (a.bind fun x => b.map fun y => f x y) = some r → ∃ k l, a = some k ∧ b = some l := by
    intro α a b f r h
    cases a with
    | none => cases h
    | some k => cases b with
      | none => cases h
      | some l => exact ⟨k, l, rfl, rfl⟩
  unfold slcR at h
  split at h
  · split at h
    · cases h
    · obtain ⟨k, l, h1, h2⟩ := fin h
      exact ⟨end_int h1, end_int h2⟩
  · obtain ⟨k, l, h1, h2⟩ := fin h
    exact ⟨end_int h1, end_int h2⟩
  · split at h
    · obtain ⟨k, l, h1, h2⟩ := fin h
      exact ⟨end_int h1, end_int h2⟩
    · cases h
theorem tr_slc {lo hi : Option Expr} {elo ehi : Option E} (ha : PE X a (trE T X w ea)) (hl : PO X lo (trO T X w elo)) (hh : PO X hi (trO T X w ehi)) : PE X (.Subscript a (.Slice lo hi none p2) pos) (trE T X w (.slc ea elo ehi)) := by
  refine ⟨fun pins s σv H Q I h => ?_⟩
  obtain ⟨μ, σ, G, g, rs, h⟩ := h
  obtain ⟨r, Gf, eo, q⟩ := h.done
  rw [ev] at eo
  obtain ⟨x, G1, e1, h1⟩ := EO.bind_ok eo
  obtain ⟨l, G2, e2, h2⟩ := EO.bind_ok h1
  obtain ⟨u, G3, e3, h3⟩ := EO.bind_ok h2
  obtain ⟨e4, rfl⟩ := opt_ok h3
  obtain ⟨il, iu⟩ := slc_ends e4
  refine (pe_slice (sem_slc (T := T)) ha hl hh).run pins s σv H Q I ⟨μ, σ, G, g, rs, ?_⟩
  rw [e1]
  intro μ1 H1 v1 x1 g1 d1
  refine ⟨μ1, σ, G1, g1, rs.ext x1, l, G2, e2, il, fun μ2 H2 j x2 g2 j2 => ?_⟩
  refine ⟨μ2, σ, G2, g2, (rs.ext x1).ext x2, u, Gf, e3, iu, fun μ3 H3 k x3 g3 k3 => ?_⟩
  refine ⟨Bs σ σv, H, H1, H2, μ3, Gf, x, l, u, r, g3, RD.ext (x2.trans x3) d1, ?_, k3, e4, fun μ' H' v x' g' d' => q μ' H' v (((x1.trans x2).trans x3).trans x') g' (RD.back ((x1.trans x2).trans x3) d')⟩
  cases l with
  | none => cases j <;> exact j2
  | some y =>
    obtain ⟨i, rfl⟩ := il y rfl
    cases j <;> exact j2
/-! ### built-in defs, called -/
theorem Paired.single {α β : Type} {F : α → β → Prop} {a : α} {bs : List β} (h : Paired F [a] bs) : ∃ b, bs = [b] ∧ F a b := by
  cases h with
  | cons p q => cases q; exact ⟨_, rfl, p⟩
/-- a def of one thing -/
theorem fn_one {f : Gp → R → Option R} {Q : VK} {μ : Mu} {σ : Sl} {σv : L2.St} {G : Gp} {H : Hp} {r : R} {Gf : Gp} (g : RepG T (Kx X) μ G H) (rs : RepE (Kx X) μ σ σv H) {xs : List R} (e1 : evs w les σ G = .ok xs Gf) (e2 : one1 (f Gf) xs = some r)
    (q : ∀ μ' H' v, Ext (Kx X) μ H μ' H' → RepG T (Kx X) μ' Gf H' → DR X (Bs σ σv) H μ' H' r v → Q v H') : trA T X w les σv H fun vs H1 => rOne T X f vs H1 Q := by
  refine ⟨μ, σ, G, g, rs, ?_⟩
  rw [e1]
  intro μ1 H1 vs x1 g1 d1
  unfold one1 at e2
  split at e2
  · rename_i x
    obtain ⟨v, rfl, d⟩ := Paired.single d1.1
    exact ⟨v, Bs σ σv, H, μ1, Gf, x, r, rfl, g1, d, e2, fun μ' H' v' x' g' d' => q μ' H' v' (x1.trans x') g' (RD.back x1 d')⟩
  · cases e2
theorem tr_fn1 {fb : Fb} {f : Gp → R → Option R} {x : Str} (hf : ∀ G xs, fnR fb G xs = one1 (f G) xs) {id : String} (sem : CallR X (.builtin id) (rOne T X f)) (hg : Gl X x) (hm : X.mg x = none) (hv : bootBuiltins x = some (.builtin id))
    (hn : x ≠ "__name__") (hdb : (x == ("__debug__" : Str)) = false) (hs : notStar a = true) (hp : (backTo pos (starEach es X.env)).any (·.1) = false) (ha : PA X (a :: es) (trA T X w les)) : PE X (.Call (.Name x p2) (a :: es) [] pos) (trE T X w (.fn fb les)) := by
  refine ⟨fun pins s σv H Q I h => ?_⟩
  obtain ⟨μ, σ, G, g, rs, h⟩ := h
  obtain ⟨r, Gf, eo, q⟩ := h.done
  rw [ev] at eo
  obtain ⟨xs, G1, e1, h1⟩ := EO.bind_ok eo
  obtain ⟨e4, rfl⟩ := opt_ok h1
  rw [hf] at e4
  exact (pe_callB sem hg hm hv ha hn hdb (star_cons hs) hp).run pins s σv H Q I (fn_one g rs e1 e4 q)
theorem tr_fnT {fb : Fb} {f : Gp → R → Option R} {x : Str} (hf : ∀ G xs, fnR fb G xs = one1 (f G) xs) {ty : String} (sem : CallR X (.type ty) (rOne T X f)) (hg : Gl X x) (hm : X.mg x = none) (hv : bootBuiltins x = some (.type ty))
    (hn : x ≠ "__name__") (hdb : (x == ("__debug__" : Str)) = false) (hs : notStar a = true) (hp : (backTo pos (starEach es X.env)).any (·.1) = false) (ha : PA X (a :: es) (trA T X w les)) : PE X (.Call (.Name x p2) (a :: es) [] pos) (trE T X w (.fn fb les)) := by
  refine ⟨fun pins s σv H Q I h => ?_⟩
  obtain ⟨μ, σ, G, g, rs, h⟩ := h
  obtain ⟨r, Gf, eo, q⟩ := h.done
  rw [ev] at eo
  obtain ⟨xs, G1, e1, h1⟩ := EO.bind_ok eo
  obtain ⟨e4, rfl⟩ := opt_ok h1
  rw [hf] at e4
  exact (pe_callTy sem hg hm hv ha hn hdb (star_cons hs) hp).run pins s σv H Q I (fn_one g rs e1 e4 q)
/-! ### isinstance -/
def tyStr : Ty → String
  | .int => "int" | .bool => "bool" | .str => "str" | .tuple => "tuple" | .list => "list" | .exc _ => ""
theorem kit_tab : ∀ n ∈ ["NoneType", "bool", "int", "str", "list", "tuple", "dict"], ∀ t ∈ ["int", "bool", "str", "tuple", "list"], kitB n t = some (decide (n = t ∨ (n = "bool" ∧ t = "int"))) := by
  decide +kernel
theorem kit_val {n : String} (hn : n ∈ ["NoneType", "bool", "int", "str", "list", "tuple", "dict"]) {t : Ty} (ht : ∀ c, t ≠ .exc c) {r : Bool} (h : r = decide (n = tyStr t ∨ (n = "bool" ∧ tyStr t = "int"))) : kitB n (tyStr t) = some r := by
  rw [h]
  refine kit_tab n hn (tyStr t) ?_
  cases t with
  | exc c => exact absurd rfl (ht c)
  | _ => simp [tyStr]
theorem TyX.rd {K : PySem.W.Frag} {H : Hp} {a : Addr} : (∀ xs, SqL K H a xs → TyX K H (.ref a) (.type "list")) ∧ (∀ xs, SqT K H a xs → TyX K H (.ref a) (.type "tuple")) ∧ (∀ ks, Rd H a (.dK ks) → TyX K H (.ref a) (.type "dict")) := by
  refine ⟨fun xs q => ?_, fun xs q => ?_, fun ks q => ?_⟩
  · rcases q with (q | ⟨o, q⟩) | ⟨o, its, n, h1, h2, _⟩
    · exact .base (.lst q)
    · exact .base (.frz q)
    · exact .kList h1 h2
  · rcases q with (q | ⟨o, q⟩) | ⟨o, its, n, h1, h2, _⟩
    · exact .base (.tup q)
    · exact .fTuple q
    · exact .kTuple h1 h2
  · rcases q with q | ⟨o, q⟩
    · exact .base (.dK q)
    · exact .fDict q
/-- a value's type by name -/
theorem ty_of {B : Kd → Addr → Prop} {μ : Mu} {G : Gp} {H H0 : Hp} {x : R} {v : V} (g : RepG T (Kx X) μ G H) (d : RD (Kx X) B H0 μ H x v) {sup : Nat → Nat → Bool} {t0 : Ty} {r0 : Bool} (h0 : isiR sup G x t0 = some r0) :
    ∃ n, TyX X.K H v (.type n) ∧ ∀ t r, isiR sup G x t = some r → kitB n (tyStr t) = some r := by
  have key : ∀ (n : String), n ∈ ["NoneType", "bool", "int", "str", "list", "tuple", "dict"] → TyX X.K H v (.type n) → (∀ t r, isiR sup G x t = some r → (∀ c, t ≠ .exc c) ∧ r = decide (n = tyStr t ∨ (n = "bool" ∧ tyStr t = "int"))) →
      ∃ n, TyX X.K H v (.type n) ∧ ∀ t r, isiR sup G x t = some r → kitB n (tyStr t) = some r :=
    fun n hn ht hr => ⟨n, ht, fun t r h => kit_val hn (hr t r h).1 (hr t r h).2⟩
  cases x with
  | exv c p => exact d.elim
  | val wv =>
    cases hc : content G (.val wv) with
    | some o =>
      obtain ⟨a, e, q⟩ := RD.content g d hc
      subst e
      cases o with
      | lst ws =>
        obtain ⟨vs, q1, _⟩ := q.lst
        refine key "list" (by simp) (TyX.rd.1 vs q1) fun t r h => ?_
        unfold isiR at h
        rw [hc] at h
        cases t <;> first | (cases h; done) | (cases h; exact ⟨fun c z => (nomatch z), by decide⟩)
      | dct kvs =>
        refine key "dict" (by simp) ?_ fun t r h => ?_
        · rcases q.dct with ⟨ks, rd, _⟩ | ⟨es, n, kd, _⟩
          · exact TyX.rd.2.2 ks rd
          · exact .kDict kd.at_ rfl
        · unfold isiR at h
          rw [hc] at h
          cases t <;> first | (cases h; done) | (cases h; exact ⟨fun c z => (nomatch z), by decide⟩)
    | none =>
      have d' : Den (Kx X) μ H wv v := d
      cases d' with
      | non =>
        refine key "NoneType" (by simp) (.base .non) fun t r h => ?_
        unfold isiR at h
        rw [hc] at h
        cases t <;> first | (cases h; done) | (cases h; exact ⟨fun c z => (nomatch z), by decide⟩)
      | bl b =>
        refine key "bool" (by simp) (.base (.bl b)) fun t r h => ?_
        unfold isiR at h
        rw [hc] at h
        cases t <;> first | (cases h; done) | (cases h; exact ⟨fun c z => (nomatch z), by decide⟩)
      | int i =>
        refine key "int" (by simp) (.base (.int i)) fun t r h => ?_
        unfold isiR at h
        rw [hc] at h
        cases t <;> first | (cases h; done) | (cases h; exact ⟨fun c z => (nomatch z), by decide⟩)
      | str z hz =>
        refine key "str" (by simp) (.base (.str _)) fun t r h => ?_
        unfold isiR at h
        rw [hc] at h
        cases t <;> first | (cases h; done) | (cases h; exact ⟨fun c z => (nomatch z), by decide⟩)
      | tup q1 q2 =>
        refine key "tuple" (by simp) (TyX.rd.2.1 _ q1) fun t r h => ?_
        unfold isiR at h
        rw [hc] at h
        cases t <;> first | (cases h; done) | (cases h; exact ⟨fun c z => (nomatch z), by decide⟩)
      | ref hi =>
        unfold isiR at h0
        rw [hc] at h0
        cases t0 <;> cases h0
  | obj k o =>
    obtain ⟨a, e, q⟩ := RD.content g d (show content G (.obj k o) = some o from rfl)
    subst e
    have hc : content G (.obj k o) = some o := rfl
    cases o with
    | lst ws =>
      obtain ⟨vs, q1, _⟩ := q.lst
      refine key "list" (by simp) (TyX.rd.1 vs q1) fun t r h => ?_
      unfold isiR at h
      rw [hc] at h
      cases t <;> first | (cases h; done) | (cases h; exact ⟨fun c z => (nomatch z), by decide⟩)
    | dct kvs =>
      refine key "dict" (by simp) ?_ fun t r h => ?_
      · rcases q.dct with ⟨ks, rd, _⟩ | ⟨es, n, kd, _⟩
        · exact TyX.rd.2.2 ks rd
        · exact .kDict kd.at_ rfl
      · unfold isiR at h
        rw [hc] at h
        cases t <;> first | (cases h; done) | (cases h; exact ⟨fun c z => (nomatch z), by decide⟩)
/-- the names of built-in types, as arguments -/
structure TyName (X : Cx) (t : Ty) (x : Str) : Prop where
  g : Gl X x
  m : X.mg x = none
  v : bootBuiltins x = some (.type (tyStr t))
  n : x ≠ "__name__"
  d : (x == ("__debug__" : Str)) = false
theorem TyName.pe {t : Ty} {x : Str} (h : TyName X t x) {p : Pos} : PE X (.Name x p) (tC (.ty (tyStr t))) := pe_bltn h.g h.m h.v rfl h.n h.d
theorem tr_isi1 {t : Ty} {x y : Str} {p3 : Pos} (hg : Gl X x) (hm : X.mg x = none) (hv : bootBuiltins x = some (.builtin "isinstance")) (hn : x ≠ "__name__") (hdb : (x == ("__debug__" : Str)) = false) (hs : notStar a = true)
    (ht : TyName X t y) (ha : PE X a (trE T X w ea)) : PE X (.Call (.Name x p2) [a, .Name y p3] [] pos) (trE T X w (.isi ea [t])) := by
  refine ⟨fun pins s σv H Q I h => ?_⟩
  obtain ⟨μ, σ, G, g, rs, h⟩ := h
  obtain ⟨r, Gf, eo, q⟩ := h.done
  rw [ev] at eo
  obtain ⟨xs, G1, e1, h1⟩ := EO.bind_ok eo
  unfold boolR at h1
  obtain ⟨e4, rfl⟩ := opt_ok h1
  rw [Option.map_eq_some_iff] at e4
  obtain ⟨b, e5, rfl⟩ := e4
  refine (pe_callB call_isi hg hm hv (pa_cons ha (pa_cons ht.pe pa_nil) (star_cons hs)) hn hdb (star_cons hs)).run pins s σv H Q I ⟨μ, σ, G, g, rs, ?_⟩
  rw [e1]
  intro μ1 H1 v1 x1 g1 d1
  simp only [isisR, Option.bind_eq_some_iff, Option.map_eq_some_iff] at e5
  obtain ⟨b1, e6, b2, e7, e8⟩ := e5
  obtain ⟨n, ty, hk⟩ := ty_of g1 d1 e6
  refine ⟨v1, .ty (tyStr t), .type n, .type (tyStr t), b, rfl, .ty _, ty, ?_, q μ1 H1 _ x1 g1 (.bl b)⟩
  cases e7
  simp at e8
  subst e8
  exact kit_ty (hk t b1 e6)
theorem tr_isi2 {t t' : Ty} {x y y' : Str} {n : Nat} {p3 p4 p5 : Pos} (hg : Gl X x) (hm : X.mg x = none) (hv : bootBuiltins x = some (.builtin "isinstance")) (hn : x ≠ "__name__") (hdb : (x == ("__debug__" : Str)) = false) (hs : notStar a = true)
    (ht : TyName X t y) (ht' : TyName X t' y') (ha : PE X a (trE T X w ea)) : PE X (.Call (.Name x p2) [a, .Tuple [.Name y p3, .Name y' p4] n p5] [] pos) (trE T X w (.isi ea [t, t'])) := by
  refine ⟨fun pins s σv H Q I h => ?_⟩
  obtain ⟨μ, σ, G, g, rs, h⟩ := h
  obtain ⟨r, Gf, eo, q⟩ := h.done
  rw [ev] at eo
  obtain ⟨xs, G1, e1, h1⟩ := EO.bind_ok eo
  unfold boolR at h1
  obtain ⟨e4, rfl⟩ := opt_ok h1
  rw [Option.map_eq_some_iff] at e4
  obtain ⟨b, e5, rfl⟩ := e4
  refine (pe_callB call_isiT hg hm hv (pa_cons ha (pa_cons (pe_tup (pa_cons ht.pe (pa_cons ht'.pe pa_nil))) pa_nil) (star_cons hs)) hn hdb (star_cons hs)).run pins s σv H Q I ⟨μ, σ, G, g, rs, ?_⟩
  rw [e1]
  intro μ1 H1 v1 x1 g1 d1
  simp only [isisR, Option.bind_eq_some_iff, Option.map_eq_some_iff] at e5
  obtain ⟨b1, e6, b2, ⟨b3, e7, b4, e8, e9⟩, e10⟩ := e5
  cases e8
  simp at e9
  subst e9
  refine ⟨by show 2 ≤ sizeLine; rw [sizeLine_eq]; decide, fun p hp => ?_⟩
  have d2 := RD.ext (Ext.laid (u := HO.tup [.ty (tyStr t), .ty (tyStr t')]) hp) d1
  obtain ⟨n, ty, hk⟩ := ty_of (g1.laid hp) d2 e6
  refine ⟨v1, p, _, .type n, [.type (tyStr t), .type (tyStr t')], b, rfl, upd_same, .cons (.ty _) (.cons (.ty _) .nil), ty, ?_, q μ1 _ _ (x1.trans (Ext.laid hp)) (g1.laid hp) (.bl b)⟩
  refine kitAny_cons (b := b1) (kit_ty (hk t b1 e6)) (fun z => ?_) (fun z => ?_)
  · refine kitAny_cons (b := b3) (kit_ty (hk t' b3 e7)) (fun z' => ?_) (fun z' => ?_)
    · subst z z'; rw [← e10]; rfl
    · subst z z'; rw [← e10]; rfl
  · subst z; rw [← e10]; rfl
end
end Mi
/-! methods and defs, called -/
namespace Mi
open PySem PySem.Spec PyProof.Rows L2
def notCall0 : Expr → Bool
  | .Call _ [] [] _ => false
  | _ => true
theorem base_of {o : Expr} {m : Str} {env : Env} {t : Sem Value} (h : notCall0 o = true) : attributeBase o m env t = t := by
  cases o with
  | Call f args kws pos =>
    cases args with
    | nil => cases kws with
      | nil => simp [notCall0] at h
      | cons _ _ => cases f <;> rfl
    | cons _ _ => cases f <;> rfl
  | _ => rfl
section
variable {T : Tb} {X : Cx} {w : Wd} {a b c : Expr} {ea eb ec : E} {pos p2 apos : Pos} {es : List Expr} {les : List E}
theorem few_one (h : notStar b = true) : ((backTo pos (starEach [b] X.env)).all (fun x => !x.1) && (backToKw pos (keywordEach [] X.env)).all (fun x => x.1.isSome)
      && decide (([b] : List Expr).length + ([] : List Keyword).length + (if ([] : List Keyword).isEmpty then 0 else 1) < 30)) = true := by
  rw [star_cons h]; rfl
/-- a method of texts, of one thing -/
theorem tr_mtS {m : Mb} {f : Gp → R → R → Option R} {name : Str} {id : String} (hc : changes m = false) (hf : ∀ G x ys, mtR G x m ys = one1 (f G x) ys) (hs : ∀ G x y r, f G x y = some r → kindR G x = some .str → ∃ z, x = .val (.str z)) (slot : Slot "str" name id) (hty : typeOf (.builtin id) = pure (.type "method_descriptor"))
    (sem : MtR X id (rM1 T X f .str)) (hb : notCall0 a = true) (hst : notStar b = true) (hl : (apos.endLine == pos.line) = true) (ha : PE X a (trE T X w ea)) (hp : PA X [b] (trA T X w [eb])) :
    PE X (.Call (.Attribute a name apos) [b] [] pos) (fun σv H Q => trE T X w (.mt ea m [eb]) σv H Q ∧ ∃ μ σ G, RepG T (Kx X) μ G H ∧ RepE (Kx X) μ σ σv H ∧ Aft T X (DR X (Bs σ σv)) (ev w (.mt ea m [eb]) σ G) μ H Q ∧ ∃ z G1, ev w ea σ G = .ok (.val (.str z)) G1) := by
  refine ⟨fun pins s σv H Q I h => ?_⟩
  obtain ⟨_, μ, σ, G, g, rs, h, z, G1, e1⟩ := h
  obtain ⟨r, Gf, eo, q⟩ := h.done
  rw [ev] at eo
  obtain ⟨x, G1', e1', h1⟩ := EO.bind_ok eo
  rw [e1] at e1'
  cases e1'
  obtain ⟨k, G2, e2, h2⟩ := EO.bind_ok h1
  obtain ⟨e3, rfl⟩ := opt_ok e2
  obtain ⟨ys, G3, e4, h3⟩ := EO.bind_ok h2
  unfold mtE at h3
  split at h3
  · cases h3
  rename_i hk
  rw [if_neg (by rw [hc]; exact Bool.false_ne_true)] at h3
  obtain ⟨e5, rfl⟩ := opt_ok h3
  rw [hf] at e5
  refine (pe_bm PySem.F.plainAttrs_str slot hty sem ha hp (base_of hb) (few_one hst) hl (star_cons hst)).run pins s σv H Q I ⟨μ, σ, G, g, rs, ?_⟩
  rw [e1]
  intro μ1 H1 v1 x1 g1 d1
  have hv := d1.val.strI
  subst hv
  refine ⟨rfl, μ1, σ, G2, g1, rs.ext x1, ?_⟩
  rw [e4]
  intro μ2 H2 vs x2 g2 d2
  unfold one1 at e5
  split at e5
  · rename_i y
    obtain ⟨v2, rfl, dy⟩ := Paired.single d2.1
    refine ⟨Bs σ σv, H, μ, H, H1, μ2, _, .val (.str z), y, v2, r, rfl, x1.trans x2, g2, RD.ext x2 d1, dy, ?_, e5, fun μ' H' v' x' g' d' => q μ' H' v' x' g' d'⟩
    rfl
  · cases e5
theorem tr_split (hb : notCall0 a = true) (hst : notStar b = true) (hl : (apos.endLine == pos.line) = true) (ha : PE X a (trE T X w ea)) (hp : PA X [b] (trA T X w [eb])) :
    PE X (.Call (.Attribute a "split" apos) [b] [] pos) (trE T X w (.mt ea .split [eb])) := by
  refine ⟨fun pins s σv H Q I h => ?_⟩
  have h' := h
  obtain ⟨μ, σ, G, g, rs, h'⟩ := h'
  obtain ⟨r, Gf, eo, q⟩ := h'.done
  rw [ev] at eo
  obtain ⟨x, G1, e1, h1⟩ := EO.bind_ok eo
  obtain ⟨k, G2, e2, h2⟩ := EO.bind_ok h1
  obtain ⟨e3, rfl⟩ := opt_ok e2
  obtain ⟨ys, G3, e4, h3⟩ := EO.bind_ok h2
  unfold mtE at h3
  split at h3
  · cases h3
  rw [if_neg (by decide)] at h3
  obtain ⟨e5, rfl⟩ := opt_ok h3
  have hz : ∃ z, x = .val (.str z) := by
    unfold mtR one1 at e5
    dsimp only at e5
    split at e5
    · unfold splitR at e5
      split at e5
      · exact ⟨_, rfl⟩
      · cases e5
    · cases e5
  obtain ⟨z, rfl⟩ := hz
  refine (tr_mtS (m := .split) (f := fun _ => splitR) rfl (fun _ _ _ => rfl) (fun G x y r e _ => ?_) PySem.F.slot_str_split PySem.F.type_str_split sem_split hb hst hl ha hp).run pins s σv H Q I ⟨h, μ, σ, G, g, rs, h', z, G2, e1⟩
  unfold splitR at e
  split at e
  · exact ⟨_, rfl⟩
  · cases e
theorem tr_join (hb : notCall0 a = true) (hst : notStar b = true) (hl : (apos.endLine == pos.line) = true) (ha : PE X a (trE T X w ea)) (hp : PA X [b] (trA T X w [eb])) :
    PE X (.Call (.Attribute a "join" apos) [b] [] pos) (trE T X w (.mt ea .join [eb])) := by
  refine ⟨fun pins s σv H Q I h => ?_⟩
  have h' := h
  obtain ⟨μ, σ, G, g, rs, h'⟩ := h'
  obtain ⟨r, Gf, eo, q⟩ := h'.done
  rw [ev] at eo
  obtain ⟨x, G1, e1, h1⟩ := EO.bind_ok eo
  obtain ⟨k, G2, e2, h2⟩ := EO.bind_ok h1
  obtain ⟨e3, rfl⟩ := opt_ok e2
  obtain ⟨ys, G3, e4, h3⟩ := EO.bind_ok h2
  unfold mtE at h3
  split at h3
  · cases h3
  rw [if_neg (by decide)] at h3
  obtain ⟨e5, rfl⟩ := opt_ok h3
  have hz : ∃ z, x = .val (.str z) := by
    unfold mtR one1 at e5
    dsimp only at e5
    split at e5
    · unfold joinR at e5
      split at e5
      · exact ⟨_, rfl⟩
      · cases e5
    · cases e5
  obtain ⟨z, rfl⟩ := hz
  refine (tr_mtS (m := .join) (f := joinR) rfl (fun _ _ _ => rfl) (fun G x y r e _ => ?_) PySem.F.slot_str_join PySem.F.type_str_join sem_join hb hst hl ha hp).run pins s σv H Q I ⟨h, μ, σ, G, g, rs, h', z, G2, e1⟩
  unfold joinR at e
  split at e
  · exact ⟨_, rfl⟩
  · cases e
/-! ### a def's call -/
/-- an argument, as the def gets it -/
def AD (K : Kw) (μ : Mu) (H : Hp) : R → V → Prop
  | .val x, v => Den K μ H x v
  | .obj .own o, v => ∃ a u, v = .ref a ∧ H a = some u ∧ OD K μ H o u ∧ (false, a) ∉ μ
  | .obj .frz o, v => ∃ a, v = .ref a ∧ ∃ u, Rx o H a u ∧ OD K μ H o u ∧ (false, a) ∉ μ
  | _, _ => False
/-- the addresses of what is handed over -/
def Own (rs : List R) (vs : List V) (a : Addr) : Prop := ∃ (i : Nat) (o : O), rs[i]? = some (.obj .own o) ∧ vs[i]? = some (.ref a)
structure ArgD (K : Kw) (μ : Mu) (H : Hp) (rs : List R) (vs : List V) : Prop where
  d : Paired (AD K μ H) rs vs
  own : Sep rs vs
  frz : ∀ (i j : Nat) (o o' : O) (a : Addr), rs[i]? = some (.obj .own o) → vs[i]? = some (.ref a) → rs[j]? = some (.obj .frz o') → vs[j]? ≠ some (.ref a)
structure ExtC (K : Kw) (A : Addr → Prop) (μ : Mu) (H : Hp) (μ' : Mu) (H' : Hp) : Prop where
  pre : ∀ (i : Nat) (a : Bool × Addr), μ[i]? = some a → μ'[i]? = some a
  new : ∀ a, (false, a) ∈ μ' → (false, a) ∉ μ → H a = none ∨ A a
  keep : ∀ a o, H a = some o → (false, a) ∉ μ → ¬ A a → H' a = some o
  tup : ∀ (a : Addr) (xs : List V), SqT K.K H a xs → SqT K.K H' a xs
  grow : ∀ a, H' a = none → H a = none
  frz : ∀ a o u, H a = some (.frz o u) → H' a = some (.frz o u)
def RetD (K : Kw) (A : Addr → Prop) (H : Hp) (μ' : Mu) (H' : Hp) : R → V → Prop
  | .val x, v => Den K μ' H' x v
  | .obj .own o, v => ∃ a u, v = .ref a ∧ H' a = some u ∧ OD K μ' H' o u ∧ (false, a) ∉ μ' ∧ (H a = none ∨ A a)
  | _, _ => False
/-- a def's promise, by what Mini says of it -/
def spC (T : Tb) (K : Kw) (n : Nat) (cf : List R → Gp → FO) : Sp := fun vs H Q _ => vs.length = n ∧ ∃ μ G rs, RepG T K μ G H ∧ ArgD K μ H rs vs ∧ ∃ r G', cf rs G = .ok r G' ∧ ∀ μ' H' v, ExtC K (Own rs vs) μ H μ' H' → RepG T K μ' G' H' → RetD K (Own rs vs) H μ' H' r v → Q v H'
theorem cx_no {P : Program} {w : World} {outer : List Env} {H : Hp} {s : Shared} {u : Value} {s' : Shared} : ¬ L2.CX P w outer H s (fun _ _ _ => False) u s' := fun ⟨_, _, _, _, _, _, _, _, _, _, _, _, q⟩ => q
/-- how a def of the text is called from here -/
structure CallOk (T : Tb) (X : Cx) (w : Wd) (f : Nat) (x : Str) (n : Nat) : Prop where
  ar : ∀ rs G r G', w.cf f rs G = .ok r G' → rs.length = n
  ex : ∃ (fa : Addr) (fd : FuncData) (ps : List Str) (k : Nat), ps.length = n ∧ FnOk X.prog X.w X.K X.mg X.base (L2.CX X.prog X.w) k fa fd ps (spC T (Kx X) n (w.cf f)) ∧ Room k X.A ∧ X.mg x = some (.ref fa) ∧ PySem.W.keepIn X.K (.ref fa) = true ∧ Binds X.K fd ps []
theorem FO.eo_ok {x : FO} {r : R} {G : Gp} (h : x.eo = .ok r G) : x = .ok r G := by
  cases x <;> cases h
  rfl
theorem noPos {es : List Expr} {env : Env} (h : ∀ e ∈ es, notStar e = true) : (backTo pos (starEach es env)).any (·.1) = false := by
  induction es with
  | nil => rfl
  | cons e es ih =>
    rw [star_cons (h e List.mem_cons_self)]
    have := ih fun e' he => h e' (List.mem_cons_of_mem _ he)
    unfold backTo at this ⊢
    rw [List.map_cons, List.any_cons, this]
    rfl
theorem Paired.at_ {α β : Type} {F : α → β → Prop} : ∀ {as : List α} {bs : List β} {i : Nat} {a : α}, Paired F as bs → as[i]? = some a → ∃ b, bs[i]? = some b ∧ F a b
  | _, _, _, _, .nil, h => by simp at h
  | _, _, 0, _, .cons p q, h => by simp at h; subst h; exact ⟨_, rfl, p⟩
  | _, _, i + 1, _, .cons p q, h => by
    obtain ⟨b, h1, h2⟩ := Paired.at_ (i := i) q (by simpa using h)
    exact ⟨b, by simpa using h1, h2⟩
theorem Sep.arg : ∀ {rs : List R} {vs : List V}, Sep rs vs → Sep (rs.map asArg) vs
  | [], _, _ => trivial
  | r :: rs, [], _ => trivial
  | r :: rs, v :: vs, h => by
    refine ⟨fun o j o' e hj => ?_, Sep.arg h.2⟩
    have own : ∀ {r : R} {o : O}, asArg r = .obj .own o → r = .obj .own o := fun {r o} e => by
      cases r with
      | obj k o2 => cases k <;> first | exact e | cases e
      | _ => cases e
    rw [List.getElem?_map, Option.map_eq_some_iff] at hj
    obtain ⟨r', h1, h2⟩ := hj
    have h3 := own h2
    subst h3
    exact h.1 o j o' (own e) h1
/-- what is handed in, as the def gets it -/
theorem arg_of {K : Kw} {σ : Sl} {σv : L2.St} {μ0 μ : Mu} {H0 H : Hp} {rs : List R} {vs : List V} (re : RepE K μ0 σ σv H0) (d : Paired (fun r v => RD K (Bs σ σv) H0 μ H r v) rs vs) (sp : Sep rs vs) (nt : noTop rs = true) : ArgD K μ H (rs.map asArg) vs := by
  have one : ∀ {r : R} {v : V}, RD K (Bs σ σv) H0 μ H r v → (∀ o, r ≠ .obj .top o) → AD K μ H (asArg r) v := fun {r v} d ht => by
    cases r with
    | val x => exact d
    | exv _ _ => exact d.elim
    | obj k o =>
      cases k with
      | own => obtain ⟨a, u, e, h1, h2, h3, _⟩ := d; exact ⟨a, u, e, h1, h2, h3⟩
      | brw => obtain ⟨a, e, u, h1, h2, h3, _⟩ := d; exact ⟨a, e, u, h1, h2, h3⟩
      | frz => obtain ⟨a, e, u, h1, h2, h3, _⟩ := d; exact ⟨a, e, u, h1, h2, h3⟩
      | top => exact absurd rfl (ht o)
  have tops : ∀ {rs : List R}, noTop rs = true → ∀ r ∈ rs, ∀ o, r ≠ .obj .top o := by
    intro rs
    induction rs with
    | nil => intro _ r hr; cases hr
    | cons r0 rs ih =>
      intro h r hr o e
      subst e
      rcases List.mem_cons.mp hr with e | hr
      · subst e; simp [noTop] at h
      · refine ih ?_ _ hr o rfl
        cases r0 with
        | obj k o => cases k <;> first | exact h | simp [noTop] at h
        | _ => exact h
  refine ⟨?_, sp.arg, fun i j o o' a h1 h2 h3 h4 => ?_⟩
  · have ht := tops nt
    clear sp nt
    induction d with
    | nil => exact .nil
    | cons p q ih => exact .cons (one p (ht _ List.mem_cons_self)) (ih fun r hr => ht r (List.mem_cons_of_mem _ hr))
  · rw [List.getElem?_map, Option.map_eq_some_iff] at h1 h3
    obtain ⟨r1, e1, q1⟩ := h1
    obtain ⟨r2, e2, q2⟩ := h3
    obtain ⟨v1, f1, d1⟩ := Paired.at_ d e1
    obtain ⟨v2, f2, d2⟩ := Paired.at_ d e2
    rw [h2] at f1; cases f1
    rw [h4] at f2; cases f2
    have hn : H0 a = none := by
      cases r1 with
      | obj k o =>
        cases k with
        | own => obtain ⟨a', u, e, _, _, _, h0⟩ := d1; cases e; exact h0
        | _ => cases q1
      | _ => cases q1
    have hb : ∃ (l : Nat) (k : Kd) (o3 : O), σ[l]? = some (some (.obj k o3)) ∧ σv[l]? = some (some (.ref a)) := by
      cases r2 with
      | obj k o =>
        cases k with
        | brw i =>
          obtain ⟨a', e, u, _, _, _, o3, b1, b2⟩ := d2
          cases e; exact ⟨i, _, o3, b1, b2⟩
        | frz =>
          obtain ⟨a', e, u, _, _, _, i, o3, b1, b2⟩ := d2
          cases e; exact ⟨i, _, o3, b1, b2⟩
        | own => cases q2
        | top => cases q2
      | _ => cases q2
    obtain ⟨l, k, o3, s1, s2⟩ := hb
    obtain ⟨v3, s3, s4⟩ := re.sl l _ s1
    rw [s2] at s3; cases s3
    cases k with
    | top => exact s4.elim
    | own => obtain ⟨a', e, u, rx, _⟩ := s4; cases e; obtain ⟨o4, z⟩ := Rd.some rx.rd; rw [hn] at z; cases z
    | brw => exact s4.elim
    | frz => obtain ⟨a', e, u, rx, _⟩ := s4; cases e; obtain ⟨o4, z⟩ := Rd.some rx.rd; rw [hn] at z; cases z
/-- behind a call, reckoned from the expression's start -/
theorem ExtC.ext {K : Kw} {σ : Sl} {σv : L2.St} {μ0 μ μ' : Mu} {H0 H H' : Hp} {rs : List R} {vs : List V} (e : Ext K μ0 H0 μ H) (d : Paired (fun r v => RD K (Bs σ σv) H0 μ H r v) rs vs) (x : ExtC K (Own (rs.map asArg) vs) μ H μ' H') : Ext K μ0 H0 μ' H' := by
  have own : ∀ a, Own (rs.map asArg) vs a → H0 a = none := fun a ⟨i, o, h1, h2⟩ => by
    rw [List.getElem?_map, Option.map_eq_some_iff] at h1
    obtain ⟨r, e1, q1⟩ := h1
    obtain ⟨v, f1, d1⟩ := Paired.at_ d e1
    rw [h2] at f1; cases f1
    cases r with
    | obj k o =>
      cases k with
      | own => obtain ⟨a', u, e, _, _, _, h0⟩ := d1; cases e; exact h0
      | _ => cases q1
    | _ => cases q1
  refine ⟨fun i y h => x.pre i y (e.pre i y h), fun a h n => ?_, fun a o h n => ?_, fun a xs h => x.tup a xs (e.tup a xs h), fun a h => e.grow a (x.grow a h), fun a o u h => x.frz a o u (e.frz a o u h)⟩
  · by_cases q : (false, a) ∈ μ
    · exact e.new a q n
    · rcases x.new a h q with z | z
      · exact e.grow a z
      · exact own a z
  · refine x.keep a o (e.keep a o h n) (e.nin h n) fun z => ?_
    rw [own a z] at h; cases h
theorem RetD.rd {K : Kw} {B : Kd → Addr → Prop} {σ : Sl} {σv : L2.St} {μ0 μ μ' : Mu} {H0 H H' : Hp} {rs : List R} {vs : List V} (e : Ext K μ0 H0 μ H) (d : Paired (fun r v => RD K (Bs σ σv) H0 μ H r v) rs vs) {r : R} {v : V} (h : RetD K (Own (rs.map asArg) vs) H μ' H' r v) : RD K B H0 μ' H' r v := by
  cases r with
  | val x => exact h
  | exv _ _ => exact h.elim
  | obj k o =>
    cases k with
    | own =>
      obtain ⟨a, u, e1, h1, h2, h3, h4⟩ := h
      refine ⟨a, u, e1, h1, h2, h3, ?_⟩
      rcases h4 with h4 | ⟨i, o2, f1, f2⟩
      · exact e.grow a h4
      · rw [List.getElem?_map, Option.map_eq_some_iff] at f1
        obtain ⟨r, g1, q1⟩ := f1
        obtain ⟨v', g2, d1⟩ := Paired.at_ d g1
        rw [f2] at g2; cases g2
        cases r with
        | obj k o =>
          cases k with
          | own => obtain ⟨a', u, e, _, _, _, h0⟩ := d1; cases e; exact h0
          | _ => cases q1
        | _ => cases q1
    | _ => exact h.elim
theorem tr_call {f n : Nat} {x : Str} (C : CallOk T X w f x n) (hg : Gl X x) (hdb : (x == ("__debug__" : Str)) = false) (hs : ∀ e ∈ es, notStar e = true) (hlen : es.length = les.length) (ha : PA X es (trA T X w les)) : PE X (.Call (.Name x p2) es [] pos) (trE T X w (.call f les)) := by
  refine ⟨fun pins s σv H Q I h => ?_⟩
  obtain ⟨μ, σ, G, g, rs, h⟩ := h
  obtain ⟨r, Gf, eo, q⟩ := h.done
  rw [ev] at eo
  obtain ⟨xs, G1, e1, h1⟩ := EO.bind_ok eo
  unfold callR at h1
  have nt : noTop xs = true := by
    by_cases z : noTop xs = true
    · exact z
    · rw [if_neg z] at h1; cases h1
  rw [if_pos nt] at h1
  have h2 := FO.eo_ok h1
  obtain ⟨fa, fd, ps, k, hps, F, hr, hm, hk, hb⟩ := C.ex
  have hn := C.ar _ _ _ _ h2
  rw [List.length_map] at hn
  -- the promise at what the arguments leave
  have fin : ∀ μ1 H1 vs, Ext (Kx X) μ H μ1 H1 → RepG T (Kx X) μ1 G1 H1 → DRs X (Bs σ σv) H μ1 H1 xs vs → spC T (Kx X) n (w.cf f) (vs ++ []) H1 Q fun _ _ _ => False := fun μ1 H1 vs x1 g1 d1 => by
    rw [List.append_nil]
    refine ⟨by rw [← Paired.length d1.1]; exact hn, μ1, G1, xs.map asArg, g1, arg_of rs d1.1 d1.2 nt, r, Gf, h2, fun μ' H' v x' g' d' => ?_⟩
    exact q μ' H' v (x'.ext x1 d1.1) g' (RetD.rd x1 d1.1 d')
  have hx : Passes (L2.CX X.prog X.w) X (fun _ _ _ => False) := fun _ _ _ _ _ _ _ c => (cx_no c).elim
  cases es with
  | nil =>
    refine (pe_call0 F hr hg hm hk hb .nil hx hdb).run pins s σv H Q I ?_
    cases les with
    | nil =>
      rw [evs] at e1
      cases e1
      exact fin μ H [] Ext.refl g ⟨.nil, trivial⟩
    | cons e0 l0 =>
      simp at hlen
  | cons e0 es0 =>
    refine (pe_call F hr hg hm hk hb .nil hx ha hdb (star_cons (hs _ List.mem_cons_self)) (noPos fun e he => hs e (List.mem_cons_of_mem _ he))).run pins s σv H Q I ⟨μ, σ, G, g, rs, ?_⟩
    rw [e1]
    exact fun μ1 H1 vs x1 g1 d1 => fin μ1 H1 vs x1 g1 d1
end
end Mi
/-! comprehensions -/
namespace Mi
open PySem PySem.Spec PyProof.Rows L2
section
variable {T : Tb} {X : Cx} {w : Wd}
/-- what is walked stands as it stood -/
structure Fr (K : Kw) (P : Addr → Prop) (μ1 : Mu) (H1 : Hp) (μ : Mu) (H : Hp) : Prop where
  pre : ∀ (i : Nat) (a : Bool × Addr), μ1[i]? = some a → μ[i]? = some a
  tup : ∀ (a : Addr) (xs : List V), SqT K.K H1 a xs → SqT K.K H a xs
  keep : ∀ a o, P a → H1 a = some o → H a = some o
  nin : ∀ a, P a → (false, a) ∉ μ
  frz : ∀ a o u, H1 a = some (.frz o u) → H a = some (.frz o u)
theorem Fr.gro {K : Kw} {P : Addr → Prop} {μ1 μ : Mu} {H1 H : Hp} (f : Fr K P μ1 H1 μ H) : Gro K μ1 H1 μ H := ⟨f.pre, f.tup⟩
theorem Ext.fr {K : Kw} {P : Addr → Prop} {μ1 μ : Mu} {H1 H : Hp} (e : Ext K μ1 H1 μ H) (h : ∀ a, P a → (false, a) ∉ μ1 ∧ ∃ o, H1 a = some o) : Fr K P μ1 H1 μ H :=
  ⟨e.pre, e.tup, fun a o p q => e.keep a o q (h a p).1, fun a p => let ⟨o, q⟩ := (h a p).2; e.nin q (h a p).1, e.frz⟩
theorem RD.fr {K : Kw} {B : Kd → Addr → Prop} {P : Addr → Prop} {μ1 μ : Mu} {H0 H1 H : Hp} {x : R} {v : V} (f : Fr K P μ1 H1 μ H) (d : RD K B H0 μ1 H1 x v) (hP : ∀ k o b, x = .obj k o → v = .ref b → P b) : RD K B H0 μ H x v := by
  have rx : ∀ {o : O} {a : Addr} {u : HO}, P a → Rx o H1 a u → Rx o H a u := fun {o a u} p h => by
    cases o with
    | lst _ => exact f.keep _ _ p h
    | dct _ =>
      rcases h with h | ⟨o, h⟩
      · exact .inl (f.keep _ _ p h)
      · exact .inr ⟨o, f.keep _ _ p h⟩
  cases x with
  | val w => exact Den.mono f.gro d
  | exv _ _ => exact d
  | obj k o =>
    cases k with
    | top => obtain ⟨a, e1, h⟩ := d; exact ⟨a, e1, h.mono f.gro⟩
    | own => obtain ⟨a, u, e1, h1, h2, h3, h4⟩ := d; exact ⟨a, u, e1, f.keep _ _ (hP _ _ a rfl e1) h1, h2.mono f.gro, f.nin _ (hP _ _ a rfl e1), h4⟩
    | brw => obtain ⟨a, e1, u, h1, h2, h3, h4⟩ := d; exact ⟨a, e1, u, rx (hP _ _ a rfl e1) h1, h2.mono f.gro, f.nin _ (hP _ _ a rfl e1), h4⟩
    | frz => obtain ⟨a, e1, u, h1, h2, h3, h4⟩ := d; exact ⟨a, e1, u, rx (hP _ _ a rfl e1) h1, h2.mono f.gro, f.nin _ (hP _ _ a rfl e1), h4⟩
/-- what is walked, as Mini says -/
structure Src (T : Tb) (K : Kw) (P : Addr → Prop) (μ1 : Mu) (H1 : Hp) (chk : Gp → Bool) (its : List W) (J : It) : Prop where
  go : ∀ μ G H i x, Fr K P μ1 H1 μ H → RepG T K μ G H → chk G = true → its[i]? = some x → J.go i H ∧ ∀ v H', J.yld i H v H' → Ext K μ H μ H' ∧ RepG T K μ G H' ∧ Den K μ H' x v
  stop : ∀ μ G H, Fr K P μ1 H1 μ H → RepG T K μ G H → chk G = true → J.stop its.length H
/-- a target takes an item -/
def TgOk (K : Kw) (own tg : List Nat) (g : TG) : Prop := ∀ (x : W) (v : V) (μ : Mu) (σ σ2 : Sl) (σv : L2.St) (H : Hp) (Q : L2.St → Hp → Prop), Den K μ H x v → RepE K μ (wipeS σ own) (wipe σv own) H → bindT tg x (wipeS σ own) = some σ2 →
  (∀ σv2, RepE K μ σ2 σv2 H → wipe σv2 own = wipe σv own → Q σv2 H) → g v (wipe σv own) H Q
def trC (T : Tb) (X : Cx) (w : Wd) (c : Option E) : TT := match c with
  | none => tYes
  | some e => trT T X w e
theorem EO.calm_ok {α : Type} {x : EO α} {a : α} {G : Gp} (h : x.calm = .ok a G) : x = .ok a G := by
  cases x <;> cases h; rfl
theorem wipeS_wipe {K : Kw} {μ : Mu} {σ : Sl} {σv : L2.St} {H : Hp} (r : RepE K μ σ σv H) : ∀ own : List Nat, RepE K μ (wipeS σ own) (wipe σv own) H
  | [] => r
  | v :: vs => by
    have ih := wipeS_wipe r vs
    refine ⟨?_, fun i x h => ?_⟩
    · show ((wipeS σ vs).set v none).length = ((wipe σv vs).set v none).length
      rw [List.length_set, List.length_set]; exact ih.len
    · have h : ((wipeS σ vs).set v none)[i]? = some (some x) := h
      by_cases e : v = i
      · subst e
        by_cases hl : v < (wipeS σ vs).length
        · rw [List.getElem?_set_self hl] at h; cases h
        · rw [List.getElem?_eq_none (by simpa using hl)] at h; cases h
      · rw [List.getElem?_set_ne e] at h
        obtain ⟨u, h1, h2⟩ := ih.sl i x h
        refine ⟨u, ?_, h2⟩
        show ((wipe σv vs).set v none)[i]? = _
        rw [List.getElem?_set_ne e]
        exact h1
theorem lc_go {own tg : List Nat} {cond : Option E} {elt : E} {σ : Sl} {σv : L2.St} {μ0 μ1 : Mu} {G1 Gf : Gp} {H0 H1 : Hp} {chk : Gp → Bool} {its ys : List W} {J : It} {g : TG} {Q : VK} {P : Addr → Prop} (hP : ∀ a, P a → (false, a) ∉ μ1 ∧ ∃ o, H1 a = some o)
    (x0 : Ext (Kx X) μ0 H0 μ1 H1) (g1 : RepG T (Kx X) μ1 G1 H1) (rs : RepE (Kx X) μ1 σ σv H1) (S : Src T (Kx X) P μ1 H1 chk its J) (tgo : TgOk (Kx X) own tg g)
    (e : lcL chk (fun x G => (lcStep own tg (evC w cond) (ev w elt) σ x G).calm) its G1 = .ok ys Gf) (hz : ys.length < sizeL)
    (q : ∀ μ' H' v, Ext (Kx X) μ0 H0 μ' H' → RepG T (Kx X) μ' Gf H' → RD (Kx X) (Bs σ σv) H0 μ' H' (.obj .own (.lst ys)) v → Q v H') (D : Addr) (hD : H1 D = none) :
    ∃ W : Nat → Nat → Hp → Prop, (∃ m, W 0 m (upd H1 D (.lst []))) ∧ ∀ i m H, W i m H →
      (J.stop i H ∧ Q (.ref D) H) ∨ (J.go i H ∧ ∃ Nx : Hp → Prop, (∀ H', Nx H' → ∃ m', m' < m ∧ W (i + 1) m' H') ∧ ∀ x H', J.yld i H x H' → g x (wipe σv own) H' fun σ2 H2 => wipe σ2 own = wipe σv own ∧ trC T X w cond σ2 H2 fun b H3 =>
        if b = true then trE T X w elt σ2 H3 fun y H4 => ∃ acc, H4 D = some (.lst acc) ∧ acc.length < sizeLine ∧ Nx (upd H4 D (.lst (acc ++ [y]))) else Nx H3) := by
  refine ⟨fun i m H => ∃ μ G acc va, RepG T (Kx X) μ G H ∧ Ext (Kx X) μ1 H1 μ H ∧ H D = some (.lst va) ∧ (false, D) ∉ μ ∧ Dens (Kx X) μ H acc va ∧ i ≤ its.length ∧ m = its.length - i ∧
    ∃ yr, lcL chk (fun x G => (lcStep own tg (evC w cond) (ev w elt) σ x G).calm) (its.drop i) G = .ok yr Gf ∧ acc ++ yr = ys, ⟨its.length, μ1, G1, [], [], g1.laid hD, Ext.laid hD, upd_same, g1.fresh hD, .nil, Nat.zero_le _, by simp, ys, by simpa using e, rfl⟩, ?_⟩
  rintro i m H ⟨μ, G, acc, va, gG, x1, hDv, hDn, da, hi, rfl, yr, el, ea⟩
  have nt : ∀ xs, H D ≠ some (.tup xs) := fun xs z => by rw [hDv] at z; cases z
  have nf : ∀ o u, H D ≠ some (.frz o u) := fun o u z => by rw [hDv] at z; cases z
  cases hx : its[i]? with
  | none =>
    have hl : i = its.length := by
      have := List.getElem?_eq_none_iff.mp hx; omega
    subst hl
    rw [List.drop_length] at el
    rw [lcL] at el
    split at el
    · rename_i hc
      cases el
      refine .inl ⟨S.stop μ _ H (x1.fr hP) gG hc, q μ H (.ref D) (x0.trans x1) gG ?_⟩
      rw [List.append_nil] at ea
      subst ea
      exact ⟨D, _, rfl, hDv, .lst da, hDn, x0.grow D hD⟩
    · cases el
  | some x =>
    have hl : i < its.length := (List.getElem?_eq_some_iff.mp hx).1
    have hdrop : its.drop i = x :: its.drop (i + 1) := by
      rw [List.drop_eq_getElem_cons hl, (List.getElem?_eq_some_iff.mp hx).2]
    rw [hdrop, lcL] at el
    have hc : chk G = true := by
      by_cases z : chk G = true
      · exact z
      · rw [if_neg z] at el; cases el
    rw [if_pos hc] at el
    obtain ⟨yo, G2, e1, h1⟩ := EO.bind_ok el
    obtain ⟨ys2, G3, e2, h2⟩ := EO.bind_ok h1
    have e1 := EO.calm_ok e1
    obtain ⟨go, yld⟩ := S.go μ G H i x (x1.fr hP) gG hc hx
    refine .inr ⟨go, fun H' => ∃ μ G acc va, RepG T (Kx X) μ G H' ∧ Ext (Kx X) μ1 H1 μ H' ∧ H' D = some (.lst va) ∧ (false, D) ∉ μ ∧ Dens (Kx X) μ H' acc va ∧
      ∃ yr, lcL chk (fun x G => (lcStep own tg (evC w cond) (ev w elt) σ x G).calm) (its.drop (i + 1)) G = .ok yr Gf ∧ acc ++ yr = ys, fun H' ⟨μ, G, acc, va, a, b, c, d, e, yr, f, h⟩ => ⟨its.length - (i + 1), by omega, μ, G, acc, va, a, b, c, d, e, hl, rfl, yr, f, h⟩, fun v H' hy => ?_⟩
    obtain ⟨x2, g2, dx⟩ := yld v H' hy
    unfold lcStep at e1
    split at e1
    · cases e1
    rename_i σ2 eb
    obtain ⟨k, G4, e3, h3⟩ := EO.bind_ok e1
    refine tgo x v μ σ σ2 σv H' _ dx (wipeS_wipe (rs.ext (x1.trans x2)) own) eb fun σv2 rs2 ew => ⟨ew, ?_⟩
    have hDv' : H' D = some (.lst va) := x2.keep D _ hDv hDn
    -- behind the test
    have behind : ∀ μ3 H3, Ext (Kx X) μ H' μ3 H3 → RepG T (Kx X) μ3 G4 H3 → (if k = true then trE T X w elt σv2 H3 fun y H4 => ∃ acc, H4 D = some (.lst acc) ∧ acc.length < sizeLine ∧ ∃ μ G acc2 va, RepG T (Kx X) μ G (upd H4 D (.lst (acc ++ [y]))) ∧ Ext (Kx X) μ1 H1 μ (upd H4 D (.lst (acc ++ [y]))) ∧ (upd H4 D (.lst (acc ++ [y]))) D = some (.lst va) ∧ (false, D) ∉ μ ∧ Dens (Kx X) μ (upd H4 D (.lst (acc ++ [y]))) acc2 va ∧
      ∃ yr, lcL chk (fun x G => (lcStep own tg (evC w cond) (ev w elt) σ x G).calm) (its.drop (i + 1)) G = .ok yr Gf ∧ acc2 ++ yr = ys else ∃ μ G acc va, RepG T (Kx X) μ G H3 ∧ Ext (Kx X) μ1 H1 μ H3 ∧ H3 D = some (.lst va) ∧ (false, D) ∉ μ ∧ Dens (Kx X) μ H3 acc va ∧
      ∃ yr, lcL chk (fun x G => (lcStep own tg (evC w cond) (ev w elt) σ x G).calm) (its.drop (i + 1)) G = .ok yr Gf ∧ acc ++ yr = ys) := fun μ3 H3 x3 g3 => by
      have hDv3 : H3 D = some (.lst va) := x3.keep D _ hDv' hDn
      have hDn3 : (false, D) ∉ μ3 := x3.nin hDv' hDn
      cases k with
      | false =>
        simp only [Bool.false_eq_true, if_false] at h3 ⊢
        cases h3
        cases h2
        exact ⟨μ3, _, acc, va, g3, (x1.trans x2).trans x3, hDv3, hDn3, (da.mono x2.gro).mono x3.gro, _, e2, ea⟩
      | true =>
        simp only [if_true] at h3 ⊢
        obtain ⟨r, G5, e4, h4⟩ := EO.bind_ok h3
        obtain ⟨wv, G6, e5, h5⟩ := EO.bind_ok h4
        cases h5
        cases h2
        refine ⟨μ3, σ2, G4, g3, rs2.ext x3, ?_⟩
        rw [e4]
        intro μ4 H4 y x4 g4 d4
        obtain ⟨μ5, g5, x5, dw, gr⟩ := box g4 x4 d4 e5
        have hDv4 : H4 D = some (.lst va) := x4.keep D _ hDv3 hDn3
        have hDn5 : (false, D) ∉ μ5 := x5.nin hDv3 hDn3
        have nt4 : ∀ xs, H4 D ≠ some (.tup xs) := fun xs z => by rw [hDv4] at z; cases z
        have nf4 : ∀ o u, H4 D ≠ some (.frz o u) := fun o u z => by rw [hDv4] at z; cases z
        have xt : Ext (Kx X) μ1 H1 μ5 H4 := ((x1.trans x2).trans x3).trans x5
        have xm := xt.mine (u := HO.lst (va ++ [y])) hD hDn5 nt4 nf4
        have da5 := ((da.mono x2.gro).mono x3.gro).mono x5.gro
        have gm : Gro (Kx X) μ5 H4 μ5 (upd H4 D (.lst (va ++ [y]))) := ⟨fun _ _ h => h, fun b xs h => by
          rcases h with h | h
          · refine .inl ?_
            rcases h with h | ⟨o, h⟩
            · exact .inl (by rw [upd_ne (fun z : b = D => nt4 xs (z ▸ h))]; exact h)
            · exact .inr ⟨o, by rw [upd_ne (fun z : b = D => nf4 o _ (z ▸ h))]; exact h⟩
          · exact .inr h⟩
        refine ⟨va, hDv4, ?_, μ5, _, acc ++ [wv], va ++ [y], g5.mine hDn5 nt4 nf4, xm, upd_same, hDn5, (da5.append (.cons dw .nil)).mono gm, ys2, e2, ?_⟩
        · rw [← da5.length]
          rw [sizeL_eq] at hz
          have : acc.length < ys.length := by rw [← ea]; simp
          omega
        · rw [← ea]; simp
    cases cond with
    | none =>
      rw [evC] at e3
      cases e3
      exact behind μ H' Ext.refl g2
    | some c =>
      refine ⟨μ, σ2, G, g2, rs2, ?_⟩
      rw [e3]
      intro μ3 H3 b x3 g3 d3
      cases d3
      exact behind μ3 H3 x3 g3
/-! ### what may be walked -/
theorem src_list {B : Kd → Addr → Prop} {μ1 : Mu} {H0 H1 : Hp} {chk : Gp → Bool} {its : List W} {x : R} {a : Addr} (d : RD (Kx X) B H0 μ1 H1 x (.ref a)) {P : Addr → Prop} (hP : ∀ k o b, x = .obj k o → V.ref a = .ref b → P b) (hc : ∀ G, chk G = true → content G x = some (.lst its)) : Src T (Kx X) P μ1 H1 chk its (Itl X.K a) := by
  have rd : ∀ μ G H, Fr (Kx X) P μ1 H1 μ H → RepG T (Kx X) μ G H → chk G = true → ∃ vs, SqL X.K H a vs ∧ Dens (Kx X) μ H its vs := fun μ G H e g h => by
    obtain ⟨b, eb, o⟩ := RD.content g (RD.fr e d hP) (hc G h)
    cases eb
    exact o.lst
  refine ⟨fun μ G H i x e g h hx => ?_, fun μ G H e g h => ?_⟩
  · obtain ⟨vs, s1, ds⟩ := rd μ G H e g h
    obtain ⟨v, h1, h2⟩ := ds.get hx
    refine ⟨⟨vs, v, s1, h1⟩, fun v' H' hy => ?_⟩
    obtain ⟨rfl, hy⟩ := hy
    have := hy vs s1
    rw [h1] at this; cases this
    exact ⟨Ext.refl, g, h2⟩
  · obtain ⟨vs, s1, ds⟩ := rd μ G H e g h
    exact ⟨vs, s1, by rw [ds.length]; exact Nat.le_refl _⟩
theorem src_tup {μ1 : Mu} {H1 : Hp} {chk : Gp → Bool} {its : List W} {a : Addr} {P : Addr → Prop} (d : Den (Kx X) μ1 H1 (.tup its) (.ref a)) : Src T (Kx X) P μ1 H1 chk its (Itt X.K a) := by
  have rd : ∀ μ H, Fr (Kx X) P μ1 H1 μ H → ∃ vs, SqT X.K H a vs ∧ Dens (Kx X) μ H its vs := fun μ H e => by
    obtain ⟨b, vs, eb, q, ds⟩ := (d.mono e.gro).tupI
    cases eb
    exact ⟨vs, q, ds⟩
  refine ⟨fun μ G H i x e g h hx => ?_, fun μ G H e g h => ?_⟩
  · obtain ⟨vs, s1, ds⟩ := rd μ H e
    obtain ⟨v, h1, h2⟩ := ds.get hx
    refine ⟨⟨vs, v, s1, h1⟩, fun v' H' hy => ?_⟩
    obtain ⟨rfl, hy⟩ := hy
    have := hy vs s1
    rw [h1] at this; cases this
    exact ⟨Ext.refl, g, h2⟩
  · obtain ⟨vs, s1, ds⟩ := rd μ H e
    exact ⟨vs, s1, by rw [ds.length]; exact Nat.le_refl _⟩
theorem src_str {μ1 : Mu} {H1 : Hp} {chk : Gp → Bool} {z : Tx} {P : Addr → Prop} (hz : tOk z) : Src T (Kx X) P μ1 H1 chk (z.map fun c => .str [c]) (Its (tS z)) := by
  refine ⟨fun μ G H i x e g h hx => ?_, fun μ G H e g h => ?_⟩
  · rw [List.getElem?_map, Option.map_eq_some_iff] at hx
    obtain ⟨c, hc, rfl⟩ := hx
    have hl : i < z.length := (List.getElem?_eq_some_iff.mp hc).1
    refine ⟨by show i < (tS z).cps.size; simp [tS]; exact hl, fun v' H' hy => ?_⟩
    obtain ⟨rfl, c', h1, rfl⟩ := hy
    have : (tS z).cps[i]? = some c := by simp [tS]; exact hc
    rw [this] at h1; cases h1
    exact ⟨Ext.refl, g, Den.str (K := Kx X) (μ := μ) (H := H') [c] (fun y hy => by
      rw [List.mem_singleton] at hy; subst hy
      exact hz _ (List.mem_of_getElem? hc))⟩
  · show (tS z).cps.size ≤ _
    simp [tS]
theorem rngW_len : ∀ (n : Nat) (a : Int), (rngW a n).length = n
  | 0, _ => rfl
  | n + 1, a => by rw [rngW, List.length_cons, rngW_len n]
theorem rngW_get : ∀ (n : Nat) (a : Int) (i : Nat), i < n → (rngW a n)[i]? = some (.int (a + i))
  | n + 1, a, 0, _ => by simp [rngW]
  | n + 1, a, i + 1, h => by
    rw [rngW, List.getElem?_cons_succ, rngW_get n (a + 1) i (by omega)]
    congr 2
    push_cast
    omega
theorem src_rng {μ1 : Mu} {H1 : Hp} {chk : Gp → Bool} {lo : Int} {n : Nat} {P : Addr → Prop} : Src T (Kx X) P μ1 H1 chk (rngW lo n) (Itr lo n) := by
  refine ⟨fun μ G H i x e g h hx => ?_, fun μ G H e g h => ?_⟩
  · have hl : i < n := by
      have := (List.getElem?_eq_some_iff.mp hx).1
      rwa [rngW_len] at this
    rw [rngW_get n lo i hl] at hx
    cases hx
    refine ⟨hl, fun v' H' hy => ?_⟩
    obtain ⟨rfl, rfl⟩ := hy
    exact ⟨Ext.refl, g, .int _⟩
  · show n ≤ _
    rw [rngW_len]; exact Nat.le_refl _
/-! ### targets -/
theorem RepE.set {K : Kw} {μ : Mu} {σ : Sl} {σv : L2.St} {H : Hp} (r : RepE K μ σ σv H) {i : Nat} {x : R} {v : V} (d : SD K μ H x v) : RepE K μ (σ.set i (some x)) (σv.set i (some v)) H := by
  refine ⟨by rw [List.length_set, List.length_set]; exact r.len, fun j y h => ?_⟩
  by_cases e : i = j
  · subst e
    by_cases hl : i < σ.length
    · rw [List.getElem?_set_self hl] at h
      cases h
      exact ⟨v, by rw [List.getElem?_set_self (r.len ▸ hl)], d⟩
    · rw [List.getElem?_eq_none (by simpa using hl)] at h; cases h
  · rw [List.getElem?_set_ne e] at h
    obtain ⟨u, h1, h2⟩ := r.sl j y h
    exact ⟨u, by rw [List.getElem?_set_ne e]; exact h1, h2⟩
theorem wipe_set {i : Nat} {u : Option V} : ∀ {own : List Nat} {σ : L2.St}, i ∈ own → wipe (σ.set i u) own = wipe σ own
  | v :: vs, σ, h => by
    show (wipe (σ.set i u) vs).set v none = (wipe σ vs).set v none
    by_cases e : i ∈ vs
    · rw [wipe_set e]
    · have e2 : i = v := (List.mem_cons.mp h).resolve_right e
      subst e2
      have comm : ∀ (ws : List Nat) (σ : L2.St), i ∉ ws → wipe (σ.set i u) ws = (wipe σ ws).set i u := by
        intro ws
        induction ws with
        | nil => intro σ _; rfl
        | cons a ws ih =>
          intro σ hn
          show (wipe (σ.set i u) ws).set a none = ((wipe σ ws).set a none).set i u
          rw [ih σ (fun z => hn (List.mem_cons_of_mem _ z)), List.set_comm _ _ (by intro z; apply hn; simp [z])]
      rw [comm vs σ e, List.set_set]
theorem wipe_wipe {own : List Nat} {σ : L2.St} : ∀ {l : List Nat}, (∀ i ∈ l, i ∈ own) → wipe (wipe σ l) own = wipe σ own
  | [], _ => rfl
  | i :: l, h => by
    show wipe ((wipe σ l).set i none) own = _
    rw [wipe_set (h i List.mem_cons_self), wipe_wipe fun j hj => h j (List.mem_cons_of_mem _ hj)]
theorem tg_one {K : Kw} {own : List Nat} {i : Nat} (h : i ∈ own) : TgOk K own [i] (gName i) := by
  intro x v μ σ σ2 σv H Q d r e q
  have e : some ((wipeS σ own).set i (some (R.val x))) = some σ2 := e
  cases e
  refine q _ (r.set (x := .val x) d) ?_
  rw [wipe_set h, wipe_wipe fun _ h => h]
def gNames : List Nat → TGs
  | [] => gNil
  | i :: l => gCons (gName i) (gNames l)
theorem gNames_go {K : Kw} {own : List Nat} {H : Hp} {Q : L2.St → Hp → Prop} {μ : Mu} {σv0 : L2.St} : ∀ (tg : List Nat) (xs : List W) (vs : List V) (σ : Sl) (σv : L2.St), (∀ i ∈ tg, i ∈ own) → xs.length = tg.length → Dens K μ H xs vs → RepE K μ σ σv H → wipe σv own = wipe σv0 own →
    (∀ σv2, RepE K μ ((tg.zip xs).foldl (fun (σ : Sl) (p : Nat × W) => σ.set p.1 (some (.val p.2))) σ) σv2 H → wipe σv2 own = wipe σv0 own → Q σv2 H) → gNames tg vs σv H Q
  | [], [], vs, σ, σv, _, _, d, r, ew, q => by
    cases d
    exact ⟨rfl, q σv r ew⟩
  | [], _ :: _, _, _, _, _, hl, _, _, _, _ => by simp at hl
  | _ :: _, [], _, _, _, _, hl, _, _, _, _ => by simp at hl
  | i :: tg, x :: xs, vs, σ, σv, ho, hl, d, r, ew, q => by
    cases d with
    | cons d ds =>
      refine ⟨_, _, rfl, ?_⟩
      exact gNames_go tg xs _ (σ.set i (some (.val x))) _ (fun j hj => ho j (List.mem_cons_of_mem _ hj)) (by simpa using hl) ds (r.set (x := .val x) d) (by rw [wipe_set (ho i List.mem_cons_self)]; exact ew) q
theorem tg_tup {own tg : List Nat} (h : ∀ i ∈ tg, i ∈ own) (hl : tg.length ≠ 1) : TgOk (Kx X) own tg (gTup X.K tg.length (gNames tg)) := by
  intro x v μ σ σ2 σv H Q d r e q
  unfold bindT at e
  split at e
  · simp at hl
  · split at e
    · rename_i xs
      split at e
      · rename_i hx
        cases e
        obtain ⟨a, vs, e1, s1, ds⟩ := d.tupI
        refine ⟨a, vs, e1, s1, by rw [← ds.length]; exact hx, ?_⟩
        exact gNames_go tg xs vs _ _ h hx ds r (wipe_wipe fun _ h => h) q
      · cases e
    · cases e
/-! ### a dict is locked while it is walked -/
theorem Ext.unlock {K : Kw} {μ μ' : Mu} {H H' : Hp} {a : Addr} {od : Obj} {u : HO} (hu : H a = some u) (hm : (false, a) ∈ μ) (nt : ∀ xs, u ≠ .tup xs) (nf : ∀ o v, u ≠ .frz o v) (e : Ext K μ (upd H a (.frz od u)) μ' H') : Ext K μ H μ' (upd H' a u) := by
  have ne : ∀ b, b ≠ a → upd H a (.frz od u) b = H b := fun b h => upd_ne h
  refine ⟨e.pre, fun b h n => ?_, fun b o h n => ?_, fun b xs q => ?_, fun b q => ?_, fun b o v q => ?_⟩
  · have := e.new b h n
    by_cases z : b = a
    · subst z; exact absurd hm n
    · rwa [ne b z] at this
  · have z : b ≠ a := fun z => n (z ▸ hm)
    rw [upd_ne z]
    exact e.keep b o (by rw [ne b z]; exact h) n
  · rcases q with q | q
    · by_cases z : b = a
      · subst z
        rcases q with q | ⟨o, q⟩
        · rw [hu] at q; cases q; exact absurd rfl (nt xs)
        · rw [hu] at q; cases q; exact absurd rfl (nf o _)
      · have q' : SqT K.K (upd H a (.frz od u)) b xs := .inl (by
          unfold Rd
          rw [ne b z]
          exact q)
        rcases e.tup b xs q' with q' | q'
        · refine .inl ?_
          unfold Rd at q' ⊢
          rw [upd_ne z]
          exact q'
        · exact .inr q'
    · exact .inr q
  · by_cases z : b = a
    · subst z; rw [upd_same] at q; cases q
    · rw [upd_ne z] at q
      have := e.grow b q
      rwa [ne b z] at this
  · by_cases z : b = a
    · subst z; rw [hu] at q; cases q; exact absurd rfl (nf o v)
    · rw [upd_ne z]
      exact e.frz b o v (by rw [ne b z]; exact q)
theorem Gro.unlock {K : Kw} {μ : Mu} {H : Hp} {a : Addr} {od : Obj} {u : HO} (hf : H a = some (.frz od u)) (nt : ∀ xs, u ≠ .tup xs) : Gro K μ H μ (upd H a u) := by
  refine ⟨fun _ _ h => h, fun b xs q => ?_⟩
  rcases q with q | q
  · by_cases z : b = a
    · subst z
      rcases q with q | ⟨o, q⟩
      · rw [hf] at q; cases q
      · rw [hf] at q; cases q; exact absurd rfl (nt xs)
    · refine .inl ?_
      unfold Rd at q ⊢
      rw [upd_ne z]
      exact q
  · exact .inr q
theorem RepG.unlock {K : Kw} {μ : Mu} {G : Gp} {H : Hp} {a : Addr} {od : Obj} {u : HO} (g : RepG T K μ G H) (hf : H a = some (.frz od u)) (nt : ∀ xs, u ≠ .tup xs) : RepG T K μ G (upd H a u) := by
  have gr : Gro K μ H μ (upd H a u) := Gro.unlock hf nt
  refine ⟨g.len, g.nd, fun i go b hg hi => ?_⟩
  have q := g.ob i go b hg hi
  obtain ⟨k, b⟩ := b
  by_cases z : b = a
  · subst z
    cases k with
    | true => cases go with
      | frz o => exact KL.mono gr q
      | obj o => exact q
      | ins _ _ => exact q
    | false =>
      cases go with
      | obj o =>
        obtain ⟨v, h1, h2⟩ := q
        rw [hf] at h1; cases h1
        cases h2
      | frz o =>
        obtain ⟨v, h1, h2⟩ := q
        rcases h1 with h1 | ⟨o2, h1⟩
        · rw [hf] at h1; cases h1; cases h2
        · rw [hf] at h1; cases h1
          exact ⟨u, .inl upd_same, h2.mono gr⟩
      | ins c fs =>
        obtain ⟨dx, fv, h1, _⟩ := q
        rw [hf] at h1; cases h1
  · cases k with
    | true => cases go with
      | frz o => exact KL.mono gr q
      | obj o => exact q
      | ins _ _ => exact q
    | false =>
      cases go with
      | obj o => obtain ⟨v, h1, h2⟩ := q; exact ⟨v, by rw [upd_ne z]; exact h1, h2.mono gr⟩
      | frz o => obtain ⟨v, h1, h2⟩ := q; exact ⟨v, by unfold Rd at h1 ⊢; rw [upd_ne z]; exact h1, h2.mono gr⟩
      | ins c fs => obtain ⟨dx, fv, h1, h2⟩ := q; exact ⟨dx, fv, by rw [upd_ne z]; exact h1, h2.mono gr⟩
theorem RepG.relabel {K : Kw} {μ : Mu} {G : Gp} {H : Hp} {p : Nat} {b : Bool × Addr} {go : GO} (g : RepG T K μ G H) (hp : μ[p]? = some b) (q : GD T K μ H go b) : RepG T K μ (G.set p go) H := by
  refine ⟨by rw [List.length_set]; exact g.len, g.nd, fun i go' b' hg hi => ?_⟩
  by_cases z : p = i
  · subst z
    rw [hp] at hi; cases hi
    rw [List.getElem?_set] at hg
    simp at hg
    obtain ⟨_, hg⟩ := hg
    subst hg; exact q
  · rw [List.getElem?_set_ne z] at hg
    exact g.ob i go' b' hg hi
theorem content_lock {G : Gp} {p : Nat} {o : O} (h : G[p]? = some (.obj o)) (x : R) : content (G.set p (.frz o)) x = content G x := by
  unfold content
  cases x with
  | val w =>
    cases w with
    | ref q =>
      dsimp only
      by_cases z : p = q
      · subst z
        have hl := (List.getElem?_eq_some_iff.mp h).1
        rw [List.getElem?_set_self hl, h]
      · rw [List.getElem?_set_ne z]
    | _ => rfl
  | obj k o => rfl
  | exv _ _ => rfl
theorem idx_lock {G : Gp} {p : Nat} {o : O} (h : G[p]? = some (.obj o)) (x i : R) : idxR (G.set p (.frz o)) x i = idxR G x i := by
  unfold idxR
  split <;> first | rfl | rw [content_lock h]
/-- a simple source tells the same of a locked heap -/
theorem simp_ev {e : E} {σ : Sl} {G G1 : Gp} {x : R} (hs : simpS [e] = true) (he : ev w e σ G = .ok x G1) : G1 = G ∧ ∀ (p : Nat) (o : O), G[p]? = some (.obj o) → ev w e σ (G.set p (.frz o)) = .ok x (G.set p (.frz o)) := by
  have var : ∀ (i : Nat) (G G1 : Gp) (x : R), ev w (.v i) σ G = .ok x G1 → G1 = G ∧ getS σ i = some x := fun i G G1 x h => by
    rw [ev] at h
    obtain ⟨h1, h2⟩ := opt_ok h
    exact ⟨h2, h1⟩
  have varb : ∀ (i : Nat) (G : Gp) (x : R), getS σ i = some x → ev w (.v i) σ G = .ok x G := fun i G x h => by
    rw [ev, h]; rfl
  unfold simpS at hs
  split at hs
  · rename_i i h0
    cases h0
    obtain ⟨h1, h2⟩ := var _ _ _ _ he
    exact ⟨h1, fun p o _ => varb _ _ _ h2⟩
  · rename_i i f h0
    cases h0
    rw [ev] at he
    obtain ⟨y, G2, e1, h1⟩ := EO.bind_ok he
    obtain ⟨rfl, h2⟩ := var _ _ _ _ e1
    unfold fldR at h1
    split at h1
    · rename_i c v
      split at h1
      · rename_i hc
        cases h1
        refine ⟨rfl, fun p o _ => ?_⟩
        rw [ev, varb _ _ _ h2]
        show fldR w.fe f (.exv c v) _ = _
        exact if_pos hc
      · cases h1
    · rename_i q
      split at h1
      · rename_i c fs hq
        obtain ⟨h3, rfl⟩ := opt_ok h1
        refine ⟨rfl, fun p o hp => ?_⟩
        have z : p ≠ q := fun z => by subst z; rw [hp] at hq; cases hq
        rw [ev, varb _ _ _ h2]
        show fldR w.fe f (.val (.ref q)) _ = _
        unfold fldR
        dsimp only
        rw [List.getElem?_set_ne z, hq]
        dsimp only
        rw [h3]; rfl
      · cases h1
    · cases h1
  · rename_i i k h0
    cases h0
    rw [ev] at he
    obtain ⟨y, G2, e1, h1⟩ := EO.bind_ok he
    obtain ⟨rfl, h2⟩ := var _ _ _ _ e1
    obtain ⟨z, G3, e2, h3⟩ := EO.bind_ok h1
    rw [ev] at e2
    cases e2
    obtain ⟨h4, rfl⟩ := opt_ok h3
    refine ⟨rfl, fun p o hp => ?_⟩
    rw [ev, varb _ _ _ h2]
    generalize hG : List.set _ p (GO.frz o) = Gl
    have key : (EO.ok y Gl).bind (fun x G => (ev w (.c k) σ G).bind fun i G => opt ((idxR G x i).map R.val) G) = opt ((idxR Gl y (.val k)).map R.val) Gl := by
      show (ev w (.c k) σ Gl).bind (fun (i : R) G => opt ((idxR G y i).map R.val) G) = _
      rw [ev]; rfl
    rw [key, ← hG, idx_lock hp, h4]; rfl
  · cases hs
theorem DenKV.at_ {K : Kw} {μ : Mu} {H : Hp} : ∀ {kvs : List (W × W)} {ks : List (Key × V)} {i : Nat} {k : W} {kk : Key} {v : V}, DenKV K μ H kvs ks → (kvs.map (·.1))[i]? = some k → ks[i]? = some (kk, v) → keyD k kk
  | _, _, _, _, _, _, .nil, h, _ => by simp at h
  | _, _, 0, _, _, _, .cons a d r, h, q => by simp at h q; obtain ⟨rfl, _⟩ := q; subst h; exact a
  | _, _, i + 1, _, _, _, .cons a d r, h, q => DenKV.at_ (i := i) r (by simpa using h) (by simpa using q)
theorem src_dict {μ1 : Mu} {H1 : Hp} {chk : Gp → Bool} {a : Addr} {od : Obj} {kvs : List (W × W)} {ks : List (Key × V)} {P : Addr → Prop} (hf : H1 a = some (.frz od (.dK ks))) (d : DenKV (Kx X) μ1 H1 kvs ks) : Src T (Kx X) P μ1 H1 chk (kvs.map (·.1)) (Itk a od ks) := by
  have hl := d.length
  refine ⟨fun μ G H i x f g hc hx => ?_, fun μ G H f g hc => ⟨f.frz _ _ _ hf, by rw [List.length_map]; omega⟩⟩
  have hi : i < kvs.length := by have := (List.getElem?_eq_some_iff.mp hx).1; simpa using this
  refine ⟨⟨f.frz _ _ _ hf, by omega⟩, fun v H' ⟨e, k, v0, hk, hv⟩ => ?_⟩
  subst e hv
  exact ⟨Ext.refl, g, keyD_ok (d.at_ hx hk)⟩
end
end Mi
/-! comprehensions as expressions; what is checked of a text; all expressions -/
namespace Mi
open PySem PySem.Spec PyProof.Rows L2
def notSet : Expr → Bool
  | .Set _ _ _ => false
  | _ => true
theorem folded_of {e : Expr} {env : Env} (h : notSet e = true) : ∀ x, foldedSetIterable e env x = pure x := by
  intro x
  cases e <;> first | rfl | (simp [notSet] at h)
section
variable {T : Tb} {X : Cx} {w : Wd}
/-- where nothing is locked -/
theorem lc_plain {own tg : List Nat} {ik : Ik} {fc : Sl → Gp → EO Bool} {fe : Sl → Gp → EO R} {σ : Sl} {xs : List R} {G Gf : Gp} {r : R} (h : lcR own tg ik fc fe σ xs G = .ok r Gf) (hl : lockOf G ik xs = none) :
    ∃ its ys, walk G ik xs = some its ∧ lcL (chkW (xs.map (kindR G)) ik xs its) (fun x G => (lcStep own tg fc fe σ x G).calm) its G = .ok ys Gf ∧ ys.length < sizeL ∧ r = .obj .own (.lst ys) := by
  unfold lcR at h
  split at h
  · cases h
  · rename_i its hw
    rw [hl] at h
    obtain ⟨ys, G2, e1, h1⟩ := EO.bind_ok h
    by_cases hz : ys.length < sizeL
    · rw [if_pos hz] at h1
      cases h1
      exact ⟨its, ys, hw, e1, hz, rfl⟩
    · rw [if_neg hz] at h1; cases h1
/-- a dict is walked -/
def dctS (G : Gp) (xs : List R) : Prop := ∃ x kvs, xs = [x] ∧ content G x = some (.dct kvs)
/-- what a walk's source is, in the text; lists first -/
def WalkL (T : Tb) (X : Cx) (w : Wd) (at_ ai : Expr) (ik : Ik) (src : List E) : Prop := ∀ (μ : Mu) (σ : Sl) (σv : L2.St) (G G1 : Gp) (H : Hp) (xs : List R), RepG T (Kx X) μ G H → RepE (Kx X) μ σ σv H → evs w src σ G = .ok xs G1 → (ik = .of → ¬ dctS G1 xs) →
  ∀ its, walk G1 ik xs = some its → ∃ wi, PI X at_ ai wi ∧
      ∀ (R : It → Hp → Prop), (∀ μ1 H1 J P, Ext (Kx X) μ H μ1 H1 → RepG T (Kx X) μ1 G1 H1 → (∀ a, P a → (false, a) ∉ μ1 ∧ (∃ o, H1 a = some o) ∧ (∃ r ∈ xs, ∃ k o, r = .obj k o ∧ (Bs σ σv k a ∨ H a = none))) → Src T (Kx X) P μ1 H1 (chkW (xs.map (kindR G1)) ik xs its) its J → R J H1) → wi σv H R
structure Walk (T : Tb) (X : Cx) (w : Wd) (at_ ai : Expr) (ik : Ik) (src : List E) : Prop where
  l : WalkL T X w at_ ai ik src
  e : ik = .of → ∃ e0, src = [e0] ∧ PE X ai (trE T X w e0)
theorem notTop {K : Kw} {B : Kd → Addr → Prop} {μ : Mu} {H H0 : Hp} {G : Gp} {x : R} {v : V} {ws : List W} {k : Kd} {o : O} (d : RD K B H0 μ H x v) (hc : content G x = some (.lst ws)) (e : x = .obj k o) : k ≠ .top := fun z => by
  subst z
  subst e
  cases hc
  obtain ⟨a, _, h⟩ := d
  exact h
/-- the addresses that a source's value gives -/
def Pa (x : R) (v : V) (a : Addr) : Prop := (∃ k o, x = .obj k o ∧ k ≠ .top) ∧ v = .ref a
theorem Pa.ok {σ : Sl} {σv : L2.St} {μ1 : Mu} {H H1 : Hp} {x : R} {v : V} {xs : List R} (d : RD (Kx X) (Bs σ σv) H μ1 H1 x v) (hx : x ∈ xs) : ∀ a, Pa x v a → (false, a) ∉ μ1 ∧ (∃ o, H1 a = some o) ∧ (∃ r ∈ xs, ∃ k o, r = .obj k o ∧ (Bs σ σv k a ∨ H a = none)) := by
  rintro a ⟨⟨k, o, rfl, hk⟩, rfl⟩
  cases k with
  | top => exact absurd rfl hk
  | own => obtain ⟨b, u, e, h1, h2, h3, h4⟩ := d; cases e; exact ⟨h3, ⟨u, h1⟩, _, hx, _, _, rfl, .inr h4⟩
  | brw => obtain ⟨b, e, u, h1, h2, h3, h4⟩ := d; cases e; exact ⟨h3, Rd.some h1.rd, _, hx, _, _, rfl, .inl h4⟩
  | frz => obtain ⟨b, e, u, h1, h2, h3, h4⟩ := d; cases e; exact ⟨h3, Rd.some h1.rd, _, hx, _, _, rfl, .inl h4⟩
theorem lock_none {G : Gp} {ik : Ik} {xs : List R} (h : ik = .of → ¬ dctS G xs) : lockOf G ik xs = none := by
  unfold lockOf
  split
  · rename_i p
    split
    · rename_i kvs hp
      exact absurd ⟨_, kvs, rfl, by simp [Mi.content, hp]⟩ (h rfl)
    · rfl
  · rfl
/-- a dict that is walked, where it is locked -/
theorem dict_wi {e0 : E} {μ : Mu} {σ : Sl} {σv : L2.St} {G : Gp} {H : Hp} {p : Nat} {a : Addr} {od : Obj} {kvs : List (W × W)} {ks : List (Key × V)} (g : RepG T (Kx X) μ G H) (rs : RepE (Kx X) μ σ σv H) (he : ev w e0 σ G = .ok (.val (.ref p)) G) (hF : H a = some (.frz od (.dK ks))) (hp : μ[p]? = some (false, a)) (dk : DenKV (Kx X) μ H kvs ks) {chk : Gp → Bool}
    (R : It → Hp → Prop) (k : ∀ μ1 H1, Ext (Kx X) μ H μ1 H1 → RepG T (Kx X) μ1 G H1 → Src T (Kx X) (fun _ => False) μ1 H1 chk (kvs.map (·.1)) (Itk a od ks) → R (Itk a od ks) H1) : iKeys (trE T X w e0) σv H R := by
  refine ⟨μ, σ, G, g, rs, ?_⟩
  rw [he]
  intro μ1 H1 v x1 g1 d1
  have d2 : Den (Kx X) μ1 H1 (.ref p) v := d1
  cases d2 with
  | ref hi =>
    rw [x1.pre _ _ hp] at hi
    cases hi
    exact ⟨a, od, rfl, .inl ⟨ks, x1.frz _ _ _ hF, k μ1 H1 x1 g1 (src_dict (x1.frz _ _ _ hF) (dk.mono x1.gro))⟩⟩
/-- what stands where a dict is walked -/
theorem dict_at {e0 : E} {μ : Mu} {σ : Sl} {σv : L2.St} {G G1 : Gp} {H : Hp} {xs : List R} (g : RepG T (Kx X) μ G H) (rs : RepE (Kx X) μ σ σv H) (he : evs w [e0] σ G = .ok xs G1) (hl : lockS [e0] G1 .of xs = true) (hd : dctS G1 xs) :
    G1 = G ∧ ∃ p a kvs ks, xs = [.val (.ref p)] ∧ μ[p]? = some (false, a) ∧ DenKV (Kx X) μ H kvs ks ∧ walk G .of xs = some (kvs.map (·.1)) ∧ ev w e0 σ G = .ok (.val (.ref p)) G ∧
      ((G[p]? = some (.obj (.dct kvs)) ∧ H a = some (.dK ks) ∧ ev w e0 σ (G.set p (.frz (.dct kvs))) = .ok (.val (.ref p)) (G.set p (.frz (.dct kvs)))) ∨ (G[p]? = some (.frz (.dct kvs)) ∧ Rd H a (.dK ks))) := by
  obtain ⟨x, kvs, rfl, hc⟩ := hd
  rw [evs] at he
  obtain ⟨x', G2, e1, h1⟩ := EO.bind_ok he
  rw [evs] at h1
  cases h1
  unfold lockS at hl
  rw [Bool.and_eq_true] at hl
  obtain ⟨h1, h2⟩ := hl
  cases x with
  | exv _ _ => cases hc
  | obj k o =>
    have : o = .dct kvs := by cases hc; rfl
    subst this
    cases h1
  | val wv =>
    cases wv with
    | ref p =>
      have hs : simpS [e0] = true := by
        rw [Bool.or_eq_true] at h2
        rcases h2 with h2 | h2
        · exact h2
        · exfalso
          unfold content at hc
          dsimp only at hc h2
          split at hc
          · rename_i o hp; cases hc; rw [hp] at h2; cases h2
          · rename_i o hp; cases hc; rw [hp] at h2; cases h2
          · cases hc
      obtain ⟨rfl, hlk⟩ := simp_ev hs e1
      refine ⟨rfl, p, ?_⟩
      have hw : walk G1 .of [.val (.ref p)] = some (kvs.map (·.1)) := by
        show items G1 (.val (.ref p)) = _
        unfold items
        rw [hc]
      unfold content at hc
      dsimp only at hc
      have at_ : ∀ go, G1[p]? = some go → ∃ b, μ[p]? = some b ∧ GD T (Kx X) μ H go b := fun go hg => by
        have hl := (List.getElem?_eq_some_iff.mp hg).1
        rw [← g.len] at hl
        exact ⟨_, List.getElem?_eq_getElem hl, g.ob p go _ hg (List.getElem?_eq_getElem hl)⟩
      split at hc
      · rename_i o hp
        cases hc
        obtain ⟨⟨k, a⟩, hm, q⟩ := at_ _ hp
        cases k with
        | true => exact q.elim
        | false =>
          obtain ⟨u, q1, q2⟩ := q
          cases q2 with
          | dct dk => exact ⟨a, kvs, _, rfl, hm, dk, hw, e1, .inl ⟨hp, q1, hlk p _ hp⟩⟩
      · rename_i o hp
        cases hc
        obtain ⟨⟨k, a⟩, hm, q⟩ := at_ _ hp
        cases k with
        | true => exact q.elim
        | false =>
          obtain ⟨u, q1, q2⟩ := q
          cases q2 with
          | dct dk => exact ⟨a, kvs, _, rfl, hm, dk, hw, e1, .inr ⟨hp, q1⟩⟩
      · cases hc
    | _ => cases hc
theorem dK_tup {ks : List (Key × V)} : ∀ xs, HO.dK ks ≠ .tup xs := fun _ z => by cases z
theorem dK_frz {ks : List (Key × V)} : ∀ o v, HO.dK ks ≠ .frz o v := fun _ _ z => by cases z
/-- a dict, locked here -/
theorem lock_in {μ : Mu} {G : Gp} {H : Hp} {p : Nat} {a : Addr} {od : Obj} {kvs : List (W × W)} {ks : List (Key × V)} (g : RepG T (Kx X) μ G H) (hp : μ[p]? = some (false, a)) (hu : H a = some (.dK ks)) (dk : DenKV (Kx X) μ H kvs ks) :
    Ext (Kx X) μ H μ (upd H a (.frz od (.dK ks))) ∧ RepG T (Kx X) μ (G.set p (.frz (.dct kvs))) (upd H a (.frz od (.dK ks))) := by
  have nt : ∀ xs, H a ≠ some (.tup xs) := fun xs z => by rw [hu] at z; cases z
  have nf : ∀ o u', H a ≠ some (.frz o u') := fun o u' z => by rw [hu] at z; cases z
  have x : Ext (Kx X) μ H μ (upd H a (.frz od (.dK ks))) := Ext.set (List.mem_of_getElem? hp) nt nf
  exact ⟨x, g.set hp nt nf ⟨_, .inr ⟨od, upd_same⟩, .dct (dk.mono x.gro)⟩⟩
theorem RD.unlock {B : Kd → Addr → Prop} {μ' : Mu} {H H' : Hp} {a D : Addr} {od : Obj} {u : HO} {ys : List W} (hu : H a = some u) (hm : (false, a) ∈ μ') (hf : H' a = some (.frz od u)) (nt : ∀ xs, u ≠ .tup xs) (d : RD (Kx X) B (upd H a (.frz od u)) μ' H' (.obj .own (.lst ys)) (.ref D)) : RD (Kx X) B H μ' (upd H' a u) (.obj .own (.lst ys)) (.ref D) := by
  obtain ⟨b, v, e, h1, h2, h3, h4⟩ := d
  cases e
  have z : D ≠ a := fun z => h3 (z ▸ hm)
  refine ⟨D, v, rfl, by rw [upd_ne z]; exact h1, h2.mono (Gro.unlock hf nt), h3, ?_⟩
  rwa [upd_ne z] at h4
/-- a comprehension, by what its source walks -/
theorem lc_core {own tg : List Nat} {ik : Ik} {src : List E} {cond : Option E} {elt : E} {at_ ai : Expr} {gg : TG} {σv : L2.St} {H : Hp} {Q : VK} (tgo : TgOk (Kx X) own tg gg) (hi : Walk T X w at_ ai ik src) (h : trE T X w (.lc own tg ik src cond elt) σv H Q) :
    ∃ wi, PI X at_ ai wi ∧ (tLc wi gg (trC T X w cond) (trE T X w elt) own σv H Q ∨ tLockE (tLc wi gg (trC T X w cond) (trE T X w elt) own) σv H Q) := by
  obtain ⟨μ, σ, G, g, rs, h⟩ := h
  obtain ⟨r, Gf, eo, q⟩ := h.done
  rw [ev] at eo
  obtain ⟨xs, G1, e1, h1⟩ := EO.bind_ok eo
  by_cases hls : lockS src G1 ik xs = true
  case neg => rw [if_neg hls] at h1; cases h1
  rw [if_pos hls] at h1
  by_cases hd : ik = .of → ¬ dctS G1 xs
  · obtain ⟨its, ys, hwk, el, hz, rfl⟩ := lc_plain h1 (lock_none hd)
    obtain ⟨wi, pi, hwi⟩ := hi.l μ σ σv G G1 H xs g rs e1 hd its hwk
    exact ⟨wi, pi, .inl (hwi _ fun μ1 H1 J P x1 g1 hP S D hD => lc_go (fun a p => ⟨(hP a p).1, (hP a p).2.1⟩) x1 g1 (rs.ext x1) S tgo el hz q D hD)⟩
  · obtain ⟨hk, hd2⟩ := Classical.not_imp.mp hd
    have hd3 : dctS G1 xs := Classical.not_not.mp hd2
    clear hd hd2
    subst hk
    obtain ⟨e0, rfl, pe⟩ := hi.e rfl
    obtain ⟨rfl, p, a, kvs, ks, rfl, hp, dk, hw, he, hc⟩ := dict_at g rs e1 hls hd3
    have hm : (false, a) ∈ μ := List.mem_of_getElem? hp
    refine ⟨_, pi_keys pe, ?_⟩
    unfold lcR at h1
    rw [hw] at h1
    dsimp only at h1
    rcases hc with ⟨hg, hu, hel⟩ | ⟨hg, hr⟩
    · -- locked by Mini, too
      have hlo : lockOf G1 .of [.val (.ref p)] = some (p, .dct kvs) := by
        show (match G1[p]? with | some (.obj (.dct kvs)) => some (p, O.dct kvs) | _ => none) = _
        rw [hg]
      rw [hlo] at h1
      obtain ⟨ys, G2, e2, h2⟩ := EO.bind_ok h1
      by_cases hz : ys.length < sizeL
      case neg => rw [if_neg hz] at h2; cases h2
      rw [if_pos hz] at h2
      cases h2
      refine .inr ⟨a, _, hu, trivial, fun od => ?_⟩
      obtain ⟨xl, gl⟩ := lock_in (od := od) g hp hu dk
      refine dict_wi (chk := chkW ([R.val (.ref p)].map (kindR G1)) .of [.val (.ref p)] (kvs.map (·.1))) gl (rs.ext xl) hel upd_same hp (dk.mono xl.gro) _ fun μ1 H1 x1 g1 S D hD => ?_
      refine lc_go (Q := fun v H' => H' a = some (HO.frz od (HO.dK ks)) ∧ Q v (upd H' a (HO.dK ks))) (μ0 := μ) (H0 := upd H a (.frz od (.dK ks))) (P := fun _ => False) (fun _ z => z.elim) x1 g1 ((rs.ext xl).ext x1) S tgo e2 hz (fun μ' H' v x' g' d' => ?_) D hD
      have hf := x'.frz a od _ upd_same
      refine ⟨hf, ?_⟩
      obtain ⟨b, v', e, _⟩ := id d'
      subst e
      have hm' : (false, a) ∈ μ' := List.mem_of_getElem? (x'.pre _ _ hp)
      have xu := Ext.unlock hu hm dK_tup dK_frz x'
      refine q μ' _ _ xu ?_ (RD.unlock hu hm' hf dK_tup d')
      exact (g'.unlock hf dK_tup).relabel (x'.pre _ _ hp) ⟨_, upd_same, .dct (dk.mono xu.gro)⟩
    · have hlo : lockOf G1 .of [.val (.ref p)] = none := by
        show (match G1[p]? with | some (.obj (.dct kvs)) => some (p, O.dct kvs) | _ => none) = _
        rw [hg]
      rw [hlo] at h1
      obtain ⟨ys, G2, e2, h2⟩ := EO.bind_ok h1
      by_cases hz : ys.length < sizeL
      case neg => rw [if_neg hz] at h2; cases h2
      rw [if_pos hz] at h2
      cases h2
      rcases hr with hu | ⟨od, hu⟩
      · refine .inr ⟨a, _, hu, trivial, fun od => ?_⟩
        obtain ⟨xl, gl⟩ := lock_in (od := od) g hp hu dk
        have gs : G1.set p (.frz (.dct kvs)) = G1 := by
          obtain ⟨hl, e⟩ := List.getElem?_eq_some_iff.mp hg
          rw [← e, List.set_getElem_self]
        rw [gs] at gl
        refine dict_wi (chk := chkW ([R.val (.ref p)].map (kindR G1)) .of [.val (.ref p)] (kvs.map (·.1))) gl (rs.ext xl) he upd_same hp (dk.mono xl.gro) _ fun μ1 H1 x1 g1 S D hD => ?_
        refine lc_go (Q := fun v H' => H' a = some (HO.frz od (HO.dK ks)) ∧ Q v (upd H' a (HO.dK ks))) (μ0 := μ) (H0 := upd H a (.frz od (.dK ks))) (P := fun _ => False) (fun _ z => z.elim) x1 g1 ((rs.ext xl).ext x1) S tgo e2 hz (fun μ' H' v x' g' d' => ?_) D hD
        have hf := x'.frz a od _ upd_same
        refine ⟨hf, ?_⟩
        obtain ⟨b, v', e, _⟩ := id d'
        subst e
        have hm' : (false, a) ∈ μ' := List.mem_of_getElem? (x'.pre _ _ hp)
        exact q μ' _ _ (Ext.unlock hu hm dK_tup dK_frz x') (g'.unlock hf dK_tup) (RD.unlock hu hm' hf dK_tup d')
      · exact .inl (dict_wi (chk := chkW ([R.val (.ref p)].map (kindR G1)) .of [.val (.ref p)] (kvs.map (·.1))) g rs he hu hp dk _ fun μ1 H1 x1 g1 S D hD => lc_go (P := fun _ => False) (fun _ z => z.elim) x1 g1 (rs.ext x1) S tgo e2 hz q D hD)
theorem tr_lc {own tg : List Nat} {ik : Ik} {src : List E} {cond : Option E} {elt : E} {ownP : List (Str × Nat)} {ae at_ ai : Expr} {ifs : List Expr} {scope : Scope} {pos : Pos} {gg : TG}
    (calm : X.calm = true) (hN : X.N.Nodup) (ok : BlkOk X.N X.env.scope scope ownP) (ho : ownP.map (·.2) = own) (hns : notSet ai = true) (tgo : TgOk (Kx X) own tg gg)
    (hg : ∀ (s : Shared) (H : Hp) (C : Addr) (cl : List (Str × Addr)) (fp : List Addr), PG (X.blk s H scope (compEnvC scope cl C X.env) fp) at_ gg)
    (ht : ∀ (s : Shared) (H : Hp) (C : Addr) (cl : List (Str × Addr)) (fp : List Addr), PTs (X.blk s H scope (compEnvC scope cl C X.env) fp) ifs (trC T X w cond))
    (he : ∀ (s : Shared) (H : Hp) (C : Addr) (cl : List (Str × Addr)) (fp : List Addr), PE (X.blk s H scope (compEnvC scope cl C X.env) fp) ae (trE T X w elt))
    (hi : Walk T X w at_ ai ik src) : PE X (.ListComp ae [⟨at_, ai, ifs, 0⟩] scope pos) (trE T X w (.lc own tg ik src cond elt)) := by
  refine ⟨fun pins s σv H Q I h => ?_⟩
  obtain ⟨wi, pi, h | h⟩ := lc_core tgo hi h
  · exact (pe_lc calm hN pi ok hg ht he (folded_of hns)).run pins s σv H Q I (ho ▸ h)
  · exact (pe_lock (pe_lc calm hN pi ok hg ht he (folded_of hns))).run pins s σv H Q I (ho ▸ h)
/-- .. stored in a name at once -/
theorem ps_lcSet {own tg : List Nat} {ik : Ik} {src : List E} {cond : Option E} {elt : E} {ownP : List (Str × Nat)} {ae at_ ai : Expr} {ifs : List Expr} {scope : Scope} {pos spos py : Pos} {gg : TG} {i : Nat} {y : Str}
    (calm : X.calm = true) (hN : X.N.Nodup) (hi0 : X.N[i]? = some y) (hl : X.env.scope.names.lookup y = some .local) (hsw : swapsWith (.ListComp ae [⟨at_, ai, ifs, 0⟩] scope pos) (some (.Name y py)) spos.line X.env = pure true)
    (ok : BlkOk X.N X.env.scope scope ownP) (ho : ownP.map (·.2) = own) (hns : notSet ai = true) (tgo : TgOk (Kx X) own tg gg)
    (hg : ∀ (s : Shared) (H : Hp) (C : Addr) (cl : List (Str × Addr)) (fp : List Addr), PG (X.blk s H scope (compEnvC scope cl C X.env) fp) at_ gg)
    (ht : ∀ (s : Shared) (H : Hp) (C : Addr) (cl : List (Str × Addr)) (fp : List Addr), PTs (X.blk s H scope (compEnvC scope cl C X.env) fp) ifs (trC T X w cond))
    (he : ∀ (s : Shared) (H : Hp) (C : Addr) (cl : List (Str × Addr)) (fp : List Addr), PE (X.blk s H scope (compEnvC scope cl C X.env) fp) ae (trE T X w elt))
    (hi : Walk T X w at_ ai ik src) : PS X (.Assign [.Name y py] (.ListComp ae [⟨at_, ai, ifs, 0⟩] scope pos) spos) (tAsg (trE T X w (.lc own tg ik src cond elt)) (gName i)) := by
  refine ⟨fun pins s σv H D I h => ?_⟩
  obtain ⟨wi, pi, h | h⟩ := lc_core tgo hi h
  · exact (ps_setLc calm hN hi0 hl hsw pi ok hg ht he (folded_of hns)).run pins s σv H D I (ho ▸ h)
  · refine (ps_lock (ps_setLc calm hN hi0 hl hsw pi ok hg ht he (folded_of hns))).run pins s σv H D I ?_
    obtain ⟨d, u, h1, h2, h3⟩ := h
    exact ⟨d, u, h1, h2, fun od => ho ▸ h3 od⟩
/-! ### sources -/
theorem evs_one {src : E} {σ : Sl} {G G1 : Gp} {xs : List R} (h : evs w [src] σ G = .ok xs G1) : ∃ x, xs = [x] ∧ ev w src σ G = .ok x G1 := by
  rw [evs] at h
  obtain ⟨x, G2, e1, h1⟩ := EO.bind_ok h
  rw [evs] at h1
  cases h1
  exact ⟨x, rfl, e1⟩
theorem evs_two {a b : E} {σ : Sl} {G G1 : Gp} {xs : List R} (h : evs w [a, b] σ G = .ok xs G1) : ∃ x y G2, xs = [x, y] ∧ ev w a σ G = .ok x G2 ∧ ev w b σ G2 = .ok y G1 := by
  rw [evs] at h
  obtain ⟨x, G2, e1, h1⟩ := EO.bind_ok h
  rw [evs] at h1
  obtain ⟨ys, G3, e2, h2⟩ := EO.bind_ok h1
  obtain ⟨y, G4, e3, h3⟩ := EO.bind_ok e2
  rw [evs] at h3
  cases h3
  cases h2
  exact ⟨x, y, G2, rfl, e1, e3⟩
/-- lists, tuples and texts are walked -/
theorem so_of {src : E} {at_ ai : Expr} (ha : PE X ai (trE T X w src)) : Walk T X w at_ ai .of [src] := by
  refine ⟨?_, fun _ => ⟨src, rfl, ha⟩⟩
  intro μ σ σv G G1 H xs g rs e hd its hw
  obtain ⟨x, rfl, e1⟩ := evs_one e
  have hd : ∀ kvs, content G1 x ≠ some (.dct kvs) := fun kvs z => hd rfl ⟨x, kvs, rfl, z⟩
  have hw' : items G1 x = some its := hw
  clear hw
  have start : ∀ (Q : VK), (∀ μ1 H1 v, Ext (Kx X) μ H μ1 H1 → RepG T (Kx X) μ1 G1 H1 → RD (Kx X) (Bs σ σv) H μ1 H1 x v → Q v H1) → trE T X w src σv H Q := fun Q k => ⟨μ, σ, G, g, rs, by rw [e1]; exact k⟩
  unfold items at hw'
  split at hw'
  · cases hw'
    refine ⟨_, pi_tup ha, fun R k => start _ fun μ1 H1 v x1 g1 d1 => ?_⟩
    obtain ⟨a, vs, e2, q1, q2⟩ := d1.val.tupI
    subst e2
    exact ⟨a, rfl, ⟨vs, q1⟩, k μ1 H1 _ (fun _ => False) x1 g1 (fun _ z => z.elim) (src_tup d1.val)⟩
  · rename_i z _
    cases hw'
    refine ⟨_, pi_str ha, fun R k => start _ fun μ1 H1 v x1 g1 d1 => ?_⟩
    exact ⟨tS z, d1.val.strI, k μ1 H1 _ (fun _ => False) x1 g1 (fun _ z => z.elim) (src_str d1.val.strO)⟩
  · rename_i n1 n2
    split at hw'
    · rename_i ws hc
      cases hw'
      refine ⟨_, pi_list ha, fun R k => start _ fun μ1 H1 v x1 g1 d1 => ?_⟩
      obtain ⟨a, e2, o⟩ := RD.content g1 d1 hc
      subst e2
      obtain ⟨vs, q1, _⟩ := o.lst
      refine ⟨a, rfl, ⟨vs, q1⟩, k μ1 H1 _ _ x1 g1 (Pa.ok d1 List.mem_cons_self) (src_list d1 (fun k o b e1 e2 => ⟨⟨k, o, e1, notTop d1 hc e1⟩, e2⟩) fun G' hc' => ?_)⟩
      simp only [chkW, Bool.and_eq_true, decide_eq_true_eq] at hc'
      obtain ⟨hc2, hk⟩ := hc'
      have hk2 : kindR G' x = kindR G1 x := by simpa using hk
      have hk1 : kindR G1 x = some .lst := by
        unfold kindR
        split
        · exact absurd rfl (n2 _)
        · exact absurd rfl (n1 _)
        · rw [hc]
      have hc2 : items G' x = some its := hc2
      unfold items at hc2
      split at hc2
      · exact absurd rfl (n1 _)
      · exact absurd rfl (n2 _)
      · split at hc2
        · rename_i hc3; cases hc2; exact hc3
        · rename_i kvs2 hc3
          rw [hk1] at hk2
          unfold kindR at hk2
          split at hk2
          · exact absurd rfl (n2 _)
          · exact absurd rfl (n1 _)
          · rw [hc3] at hk2; cases hk2
        · cases hc2
    · rename_i kvs hc
      exact absurd hc (hd kvs)
    · cases hw'
theorem two62 {i : Int} (h : Mi.small i = true) : -2 ^ 62 ≤ i ∧ i < 2 ^ 62 := by
  have := small_def h
  have e : (2 : Int) ^ 62 = 4611686018427387904 := by decide
  omega
theorem pair_two {α β : Type} {F : α → β → Prop} {a b : α} {bs : List β} (h : Paired F [a, b] bs) : ∃ x y, bs = [x, y] ∧ F a x ∧ F b y := by
  cases h with
  | cons p q => cases q with
    | cons p2 q2 => cases q2; exact ⟨_, _, rfl, p, p2⟩
theorem walk_rng1 {G : Gp} {x : R} {its : List W} (h : walk G .rng [x] = some its) : ∃ n, x = .val (.int n) ∧ Mi.small n = true ∧ its = rngW 0 n.toNat := by
  cases x with
  | val w =>
    cases w with
    | int n =>
      by_cases hn : Mi.small n = true
      · simp [walk, hn] at h; exact ⟨n, rfl, hn, h.symm⟩
      · simp [walk, hn] at h
    | _ => simp [walk] at h
  | obj k o => simp [walk] at h
  | exv c w => simp [walk] at h
theorem walk_rng2 {G : Gp} {x y : R} {its : List W} (h : walk G .rng [x, y] = some its) : ∃ n m, x = .val (.int n) ∧ y = .val (.int m) ∧ Mi.small n = true ∧ Mi.small m = true ∧ its = rngW n (m - n).toNat := by
  cases x with
  | val w =>
    cases w with
    | int n =>
      cases y with
      | val v =>
        cases v with
        | int m =>
          by_cases hn : Mi.small n = true
          · by_cases hm : Mi.small m = true
            · simp [walk, hn, hm] at h; exact ⟨n, m, rfl, rfl, hn, hm, h.symm⟩
            · simp [walk, hn, hm] at h
          · simp [walk, hn] at h
        | _ => simp [walk] at h
      | obj k o => simp [walk] at h
      | exv c w => simp [walk] at h
    | _ => simp [walk] at h
  | obj k o => simp [walk] at h
  | exv c w => simp [walk] at h
theorem so_rng1 {src : E} {at_ a : Expr} {p pos : Pos} (hg : Gl X "range") (hm : X.mg "range" = none) (hs : notStar a = true) (ha : PA X [a] (trA T X w [src])) : Walk T X w at_ (.Call (.Name "range" p) [a] [] pos) .rng [src] := by
  refine ⟨?_, fun z => nomatch z⟩
  intro μ σ σv G G1 H xs g rs e hd its hw
  obtain ⟨x, rfl, e1⟩ := evs_one e
  obtain ⟨n, rfl, hn, rfl⟩ := walk_rng1 hw
  refine ⟨_, pi_range1 hg hm ha (star_cons hs), fun R k => ⟨μ, σ, G, g, rs, ?_⟩⟩
  rw [e]
  intro μ1 H1 vs x1 g1 d1
  obtain ⟨v, rfl, dv⟩ := Paired.single d1.1
  exact ⟨n, by rw [dv.val.intI], (two62 hn).1, (two62 hn).2, k μ1 H1 _ (fun _ => False) x1 g1 (fun _ z => z.elim) src_rng⟩
theorem so_rng2 {s1 s2 : E} {at_ a b : Expr} {p pos : Pos} (hg : Gl X "range") (hm : X.mg "range" = none) (hs : notStar a = true) (hs2 : notStar b = true) (ha : PA X [a, b] (trA T X w [s1, s2])) : Walk T X w at_ (.Call (.Name "range" p) [a, b] [] pos) .rng [s1, s2] := by
  refine ⟨?_, fun z => nomatch z⟩
  intro μ σ σv G G1 H xs g rs e hd its hw
  obtain ⟨x, y, G2, rfl, e1, e2⟩ := evs_two e
  obtain ⟨n, m, rfl, rfl, hn, hm', rfl⟩ := walk_rng2 hw
  refine ⟨_, pi_range2 hg hm ha (by rw [star_cons hs, star_cons hs2]; rfl) (by rw [star_cons hs2]; rfl), fun R k => ⟨μ, σ, G, g, rs, ?_⟩⟩
  rw [e]
  intro μ1 H1 vs x1 g1 d1
  obtain ⟨v, u, rfl, dv, du⟩ := pair_two d1.1
  exact ⟨n, m, by rw [dv.val.intI, du.val.intI], ⟨(two62 hn).1, (two62 hn).2, (two62 hm').1, (two62 hm').2⟩, k μ1 H1 _ (fun _ => False) x1 g1 (fun _ z => z.elim) src_rng⟩
theorem enumW_get : ∀ (xs : List W) (n i : Nat) (z : W), (enumW n xs)[i]? = some z → ∃ x, xs[i]? = some x ∧ z = .tup [.int (n + i : Nat), x]
  | [], n, i, z, h => by simp [enumW] at h
  | x :: xs, n, 0, z, h => by simp [enumW] at h; exact ⟨x, rfl, by simp [h]⟩
  | x :: xs, n, i + 1, z, h => by
    rw [enumW, List.getElem?_cons_succ] at h
    obtain ⟨y, h1, h2⟩ := enumW_get xs (n + 1) i z h
    refine ⟨y, by simpa using h1, ?_⟩
    rw [h2]
    congr 4
    omega
theorem enumW_len : ∀ (xs : List W) (n : Nat), (enumW n xs).length = xs.length
  | [], _ => rfl
  | _ :: xs, n => by rw [enumW, List.length_cons, List.length_cons, enumW_len xs]
/-- lists, told -/
theorem enum_inj : ∀ {xs ys : List W} {n : Nat}, enumW n xs = enumW n ys → xs = ys
  | [], [], _, _ => rfl
  | [], _ :: _, _, h => by simp [enumW] at h
  | _ :: _, [], _, h => by simp [enumW] at h
  | x :: xs, y :: ys, n, h => by
    simp only [enumW, List.cons.injEq, W.tup.injEq, and_true, true_and] at h
    rw [h.1, enum_inj h.2]
theorem so_enum {src : E} {a : Expr} {elts : List Expr} {kk : Nat} {tpos p pos : Pos} (hg : Gl X "enumerate") (hm : X.mg "enumerate" = none) (hs : notStar a = true) (ha : PA X [a] (trA T X w [src])) : Walk T X w (.Tuple elts kk tpos) (.Call (.Name "enumerate" p) [a] [] pos) .enm [src] := by
  refine ⟨?_, fun z => nomatch z⟩
  intro μ σ σv G G1 H xs g rs e hd its hw
  obtain ⟨x, rfl, e1⟩ := evs_one e
  have hw : (lstOf G1 x).map (enumW 0) = some its := hw
  rw [Option.map_eq_some_iff] at hw
  obtain ⟨ls, hl, rfl⟩ := hw
  have hc : ∀ G' ls', lstOf G' x = some ls' → content G' x = some (.lst ls') := fun G' ls' h => by
    unfold lstOf at h
    split at h
    · cases h; assumption
    · cases h
  refine ⟨_, pi_enum hg hm ha (star_cons hs), fun R k => ⟨μ, σ, G, g, rs, ?_⟩⟩
  rw [e]
  intro μ1 H1 vs x1 g1 d1
  obtain ⟨v, rfl, dv⟩ := Paired.single d1.1
  obtain ⟨b, e2, o⟩ := RD.content g1 dv (hc _ _ hl)
  subst e2
  obtain ⟨vs, q1, _⟩ := o.lst
  refine ⟨b, vs, rfl, q1, k μ1 H1 _ (Pa x (.ref b)) x1 g1 (Pa.ok dv List.mem_cons_self) ?_⟩
  have rd : ∀ μ G H, Fr (Kx X) (Pa x (.ref b)) μ1 H1 μ H → RepG T (Kx X) μ G H → chkW ([x].map (kindR G1)) .enm [x] (enumW 0 ls) G = true → ∃ vs, SqL X.K H b vs ∧ Dens (Kx X) μ H ls vs := fun μ G H ex gg h => by
    simp only [chkW, Bool.and_eq_true, decide_eq_true_eq] at h
    have h2 : (lstOf G x).map (enumW 0) = some (enumW 0 ls) := h.1
    rw [Option.map_eq_some_iff] at h2
    obtain ⟨ls', h3, h4⟩ := h2
    have h5 := enum_inj h4
    subst h5
    obtain ⟨b', eb, o⟩ := RD.content gg (RD.fr ex dv fun k o b' e1 e2 => ⟨⟨k, o, e1, notTop dv (hc _ _ h3) e1⟩, e2⟩) (hc _ _ h3)
    cases eb
    exact o.lst
  refine ⟨fun μ G H i z ex gg h hx => ?_, fun μ G H ex gg h => ?_⟩
  · obtain ⟨vs, s1, ds⟩ := rd μ G H ex gg h
    obtain ⟨y, hy, rfl⟩ := enumW_get _ _ _ _ hx
    obtain ⟨v, h1, h2⟩ := ds.get hy
    refine ⟨⟨vs, v, s1, h1⟩, fun v' H' hv => ?_⟩
    obtain ⟨t, u, rfl, ht, rfl, hu⟩ := hv
    have := hu vs s1
    rw [h1] at this; cases this
    exact ⟨Ext.laid ht, gg.laid ht, .tup (.inl (.inl upd_same)) (.cons (by simpa using Den.int (K := Kx X) (μ := μ) (H := _) (i : Int)) (.cons (h2.mono (Ext.laid ht).gro) .nil))⟩
  · obtain ⟨vs, s1, ds⟩ := rd μ G H ex gg h
    exact ⟨vs, s1, by rw [enumW_len, ds.length]; exact Nat.le_refl _⟩
end
end Mi
/-! globals, lists that are changed within an expression -/
namespace Mi
open PySem PySem.Spec PyProof.Rows L2
section
variable {T : Tb} {X : Cx} {w : Wd} {a b c : Expr} {ea eb ec : E} {pos p2 apos : Pos} {es : List Expr} {les : List E}
/-- a name of the top -/
structure GlobOk (X : Cx) (w : Wd) (k : Nat) (x : Str) : Prop where
  ex : ∃ (v : V) (u : Value), X.mg x = some u ∧ L2.RelV v u ∧ ∀ r, w.gl k = some r → ∀ B H0 μ H, RD (Kx X) B H0 μ H r v
theorem tr_glob {k : Nat} {x : Str} (C : GlobOk X w k x) (hg : Gl X x) (hdb : (x == ("__debug__" : Str)) = false) : PE X (.Name x pos) (trE T X w (.g k)) := by
  refine ⟨fun pins s σv H Q I h => ?_⟩
  obtain ⟨μ, σ, G, g, rs, h⟩ := h
  rw [ev] at h
  obtain ⟨r, e1, h⟩ := h.opt
  obtain ⟨v, u, hm, rv, hr⟩ := C.ex
  exact (pe_glob hg hm rv hdb).run pins s σv H Q I (h μ H v Ext.refl g (hr r e1 _ _ _ _))
theorem toW_get {r : R} {x : W} {G G' : Gp} (h : toW r G = .ok x G') : ∀ (p : Nat) (go : GO), G[p]? = some go → G'[p]? = some go := by
  intro p go hp
  unfold toW at h
  split at h
  · cases h; exact hp
  · cases h
    rw [List.getElem?_append_left (List.getElem?_eq_some_iff.mp hp).1]; exact hp
  · cases h
/-- one thing that is boxed, or none -/
theorem box1 {K : Kw} {B : Kd → Addr → Prop} {μ μ1 : Mu} {G1 G2 : Gp} {H H1 : Hp} {m : Mb} {y : R} {ys : List R} {v : V} (g : RepG T K μ1 G1 H1) (e : Ext K μ H μ1 H1) (d : RD K B H μ1 H1 y v) (h : boxR m [y] G1 = .ok ys G2) :
    ∃ y' μ2, ys = [y'] ∧ RepG T K μ2 G2 H1 ∧ Ext K μ H μ2 H1 ∧ RD K B H μ2 H1 y' v ∧ Gro K μ1 H1 μ2 H1 ∧ (∀ (p : Nat) (go : GO), G1[p]? = some go → G2[p]? = some go) := by
  by_cases hm : m = .append
  · subst hm
    have h : ((toW y G1).bind fun y G => EO.ok [R.val y] G) = .ok ys G2 := h
    obtain ⟨x, G3, e1, h1⟩ := EO.bind_ok h
    cases h1
    obtain ⟨μ2, g2, x2, dx, gr⟩ := box g e d e1
    exact ⟨.val x, μ2, rfl, g2, x2, dx, gr, toW_get e1⟩
  · have h : EO.ok [y] G1 = .ok ys G2 := by
      cases m <;> first | exact h | exact absurd rfl hm
    cases h
    exact ⟨y, μ1, rfl, g, e, d, ⟨fun _ _ h => h, fun _ _ h => h⟩, fun _ _ h => h⟩
theorem on1_some {f : R → Option (O × W)} {ys : List R} {z : O × W} (h : on1 f ys = some z) : ∃ y, ys = [y] ∧ f y = some z := by
  match ys, h with
  | [y], h => exact ⟨y, rfl, h⟩
  | [], h => cases h
  | _ :: _ :: _, h => cases h
theorem muE_ok {o : O} {m : Mb} {ys : List R} {G G' : Gp} {k : O → W → EO R} {r : R} (h : muE o m ys G k = .ok r G') : ∃ o' w, muR G o m ys = some (o', w) ∧ k o' w = .ok r G' := by
  unfold muE at h
  split at h
  · exact ⟨_, _, by assumption, h⟩
  · cases h
/-- a list that a value stands for -/
theorem RD.tyL {B : Kd → Addr → Prop} {μ : Mu} {G : Gp} {H H0 : Hp} {x : R} {v : V} (g : RepG T (Kx X) μ G H) (d : RD (Kx X) B H0 μ H x v) (h : kindR G x = some .lst) : tyV X.K "list" v H := by
  unfold kindR at h
  split at h
  · cases h
  · cases h
  · split at h
    · rename_i ws hc
      obtain ⟨a, e, o⟩ := RD.content g d hc
      subst e
      obtain ⟨vs, q, _⟩ := o.lst
      exact .inl ⟨rfl, vs, q⟩
    · cases h
    · cases h
/-- a list's method of one thing, that changes it -/
theorem tr_mu1 {m : Mb} {f : Gp → O → R → Option (O × W)} {name : Str} {id : String} (hc : changes m = true) (hf : ∀ G o ys, muR G o m ys = on1 (f G o) ys) (hk : ∀ G o y o' w, f G o y = some (o', w) → (∃ xs, o = .lst xs) ∧ ∃ xs, o' = .lst xs) (slot : Slot "list" name id)
    (hty : typeOf (.builtin id) = pure (.type "method_descriptor")) (sem : MtM X id (rU1 T X f)) (hb : notCall0 a = true) (hst : notStar b = true) (hl : (apos.endLine == pos.line) = true) (ha : PE X a (trE T X w ea)) (hp : PA X [b] (trA T X w [eb])) :
    PE X (.Call (.Attribute a name apos) [b] [] pos) (trE T X w (.mt ea m [eb])) := by
  refine ⟨fun pins s σv H Q I h => ?_⟩
  obtain ⟨μ, σ, G, g, rs, h⟩ := h
  obtain ⟨r, Gf, eo, q⟩ := h.done
  rw [ev] at eo
  obtain ⟨x, G1, e1, h1⟩ := EO.bind_ok eo
  obtain ⟨k, G2, e2, h2⟩ := EO.bind_ok h1
  obtain ⟨e3, rfl⟩ := opt_ok e2
  obtain ⟨ys, G3, e4, h3⟩ := EO.bind_ok h2
  obtain ⟨y, rfl, e4'⟩ := evs_one e4
  unfold mtE at h3
  split at h3
  · cases h3
  rename_i hkk
  have hkk : kindR G3 x = some k := by
    by_cases z : kindR G3 x = some k
    · exact z
    · exact absurd z hkk
  -- the receiver
  have rcv : (∃ p, x = .val (.ref p) ∧ ∃ ys G4 o o' wr, boxR m [y] G3 = .ok ys G4 ∧ G4[p]? = some (.obj o) ∧ muR G4 o m ys = some (o', wr) ∧ r = .val wr ∧ Gf = G4.set p (.obj o')) ∨
      (∃ o, x = .obj .own o ∧ ∃ ys o' wr, boxR m [y] G3 = .ok ys Gf ∧ muR Gf o m ys = some (o', wr) ∧ r = .val wr) := by
    split at h3
    · rename_i p _
      obtain ⟨ys, G4, e5, h5⟩ := EO.bind_ok h3
      split at h5
      · rename_i o ho
        obtain ⟨o', wr, e6, e7⟩ := muE_ok h5
        cases e7
        exact .inl ⟨p, rfl, ys, G4, o, o', wr, e5, ho, e6, rfl, rfl⟩
      · cases h5
    · rename_i o _
      obtain ⟨ys, G4, e5, h5⟩ := EO.bind_ok h3
      obtain ⟨o', wr, e6, e7⟩ := muE_ok h5
      cases e7
      exact .inr ⟨o, rfl, ys, o', wr, e5, e6, rfl⟩
    · cases h3
  -- it is a list
  have kl : k = .lst := by
    rcases rcv with ⟨p, rfl, ys, G4, o, o', wr, e5, ho, e6, rfl, rfl⟩ | ⟨o, rfl, ys, o', wr, e5, e6, rfl⟩
    · rw [hf] at e6
      obtain ⟨y', rfl, e7⟩ := on1_some e6
      obtain ⟨⟨xs, rfl⟩, _⟩ := hk _ _ _ _ _ e7
      have keep : ∀ (p : Nat) (go : GO), G3[p]? = some go → G4[p]? = some go := by
        by_cases hm : m = .append
        · subst hm
          have h : ((toW y G3).bind fun y G => EO.ok [R.val y] G) = .ok [y'] G4 := e5
          obtain ⟨x, G5, e8, h8⟩ := EO.bind_ok h
          cases h8
          exact toW_get e8
        · have h : EO.ok [y] G3 = .ok [y'] G4 := by
            cases m <;> first | exact e5 | exact absurd rfl hm
          cases h
          exact fun _ _ h => h
      have : ∀ go, G3[p]? = some go → go = .obj (.lst xs) := fun go z => by
        have := keep p go z
        rw [ho] at this
        exact (Option.some.inj this).symm
      simp only [kindR, Mi.content] at hkk
      cases hg : G3[p]? with
      | none => rw [hg] at hkk; cases hkk
      | some go =>
        rw [this go hg] at hg
        rw [hg] at hkk
        cases hkk; rfl
    · rw [hf] at e6
      obtain ⟨y', rfl, e7⟩ := on1_some e6
      obtain ⟨⟨xs, rfl⟩, _⟩ := hk _ _ _ _ _ e7
      cases hkk; rfl
  subst kl
  refine (pe_bm PySem.F.plainAttrs_list slot hty sem ha hp (base_of hb) (few_one hst) hl (star_cons hst)).run pins s σv H Q I ⟨μ, σ, G, g, rs, ?_⟩
  rw [e1]
  intro μ1 H1 v1 x1 g1 d1
  refine ⟨RD.tyL g1 d1 e3, μ1, σ, _, g1, rs.ext x1, ?_⟩
  rw [e4]
  intro μ2 H2 vs x2 g2 d2
  obtain ⟨v2, rfl, dy⟩ := Paired.single d2.1
  rcases rcv with ⟨p, rfl, ys, G4, o, o', wr, e5, ho, e6, rfl, rfl⟩ | ⟨o, rfl, ys, o', wr, e5, e6, rfl⟩
  · obtain ⟨y', μ3, rfl, g3, x3, dy', gr3, keep⟩ := box1 g2 x2 dy e5
    rw [hf] at e6
    obtain ⟨y'', ey, e7⟩ := on1_some e6
    cases ey
    obtain ⟨⟨xs, rfl⟩, ⟨xs', rfl⟩⟩ := hk _ _ _ _ _ e7
    have dp := (RD.ext x3 d1).val
    obtain ⟨kb, a2, rfl, hi, qg⟩ := g3.at_ dp
    have qo := qg _ ho
    cases kb with
    | true => exact qo.elim
    | false =>
      obtain ⟨u, hu, od⟩ := qo
      refine ⟨Bs σ σv, H1, μ3, G4, _, _, wr, y', v2, a2, u, rfl, hu, od, rfl, g3, dy', e7, fun u' v' hod dw => ?_⟩
      have nt : ∀ xs, H2 a2 ≠ some (.tup xs) := fun xs z => by rw [hu] at z; cases z; cases od
      have nf : ∀ o u', H2 a2 ≠ some (.frz o u') := fun o u' z => by rw [hu] at z; cases z; cases od
      have hm : (false, a2) ∈ μ3 := List.mem_of_getElem? hi
      have xs3 : Ext (Kx X) μ3 H2 μ3 (upd H2 a2 u') := Ext.set hm nt nf
      exact q μ3 _ v' ((x1.trans x3).trans xs3) (g3.set hi nt nf ⟨u', upd_same, hod _ xs3.gro⟩) (dw.mono xs3.gro)
  · obtain ⟨y', μ3, rfl, g3, x3, dy', gr3, keep⟩ := box1 g2 x2 dy e5
    rw [hf] at e6
    obtain ⟨y'', ey, e7⟩ := on1_some e6
    cases ey
    obtain ⟨⟨xs, rfl⟩, ⟨xs', rfl⟩⟩ := hk _ _ _ _ _ e7
    obtain ⟨a2, u, rfl, hu, od, hn, h0⟩ := RD.ext x3 d1
    refine ⟨Bs σ σv, H1, μ3, Gf, _, _, wr, y', v2, a2, u, rfl, hu, od, rfl, g3, dy', e7, fun u' v' hod dw => ?_⟩
    have nt : ∀ xs, H2 a2 ≠ some (.tup xs) := fun xs z => by rw [hu] at z; cases z; cases od
    have nf : ∀ o u', H2 a2 ≠ some (.frz o u') := fun o u' z => by rw [hu] at z; cases z; cases od
    have xm := (x1.trans x3).mine (u := u') h0 hn nt nf
    refine q μ3 _ v' xm (g3.mine hn nt nf) (dw.mono ⟨fun _ _ h => h, fun b ys h => ?_⟩)
    rcases h with h | h
    · refine .inl ?_
      rcases h with h | ⟨o, h⟩
      · exact .inl (by rw [upd_ne (fun z : b = a2 => nt ys (z ▸ h))]; exact h)
      · exact .inr ⟨o, by rw [upd_ne (fun z : b = a2 => nf o _ (z ▸ h))]; exact h⟩
    · exact .inr h
theorem appendO_lst {o : O} {y : R} {o' : O} {w : W} (h : appendO o y = some (o', w)) : (∃ xs, o = .lst xs) ∧ ∃ xs, o' = .lst xs := by
  unfold appendO at h
  split at h
  · split at h
    · split at h
      · cases h; exact ⟨⟨_, rfl⟩, ⟨_, rfl⟩⟩
      · cases h
    · cases h
  · cases h
theorem tr_append (hb : notCall0 a = true) (hst : notStar b = true) (hl : (apos.endLine == pos.line) = true) (ha : PE X a (trE T X w ea)) (hp : PA X [b] (trA T X w [eb])) :
    PE X (.Call (.Attribute a "append" apos) [b] [] pos) (trE T X w (.mt ea .append [eb])) :=
  tr_mu1 (f := fun _ => appendO) rfl (fun _ _ _ => rfl) (fun _ _ _ _ _ h => appendO_lst h) PySem.F.slot_list_append PySem.F.type_list_append sem_append hb hst hl ha hp
end
end Mi
/-! what is checked of a text: expressions -/
namespace Mi
open PySem PySem.Spec PyProof.Rows L2
/-- what is known of a def's text ahead: its names, the defs and the constants of the top by number -/
structure Cg where
  N : List Str
  fn : Nat → Option (Str × Nat)
  gl : Nat → Option Str
def biNames : List Str := ["len", "str", "int", "list", "tuple", "dict", "max", "min", "sorted", "set", "range", "enumerate", "zip", "isinstance", "bool"]
structure Okc (T : Tb) (C : Cg) (sc : Scope) (X : Cx) (w : Wd) : Prop where
  N : X.N = C.N
  nd : X.N.Nodup
  sc : X.env.scope = sc
  calm : X.calm = true
  hu : X.A.units + 65 < cLine
  bi : ∀ x ∈ biNames, X.mg x = none
  fn : ∀ f x n, C.fn f = some (x, n) → CallOk T X w f x n
  gl : ∀ k x, C.gl k = some x → GlobOk X w k x
def visB (sc : Scope) (x : Str) : Bool := match sc.names.lookup x with
  | some .local => true
  | some .cell => true
  | some .free => true
  | _ => false
def glB (sc : Scope) (x : Str) : Bool := (match sc.names.lookup x with
  | some .globalImplicit => true
  | _ => false) && !(x == ("__debug__" : Str))
theorem visB_ok {sc : Scope} {x : Str} (h : visB sc x = true) : Vis sc x := by
  unfold visB at h
  split at h
  · exact .inl (by assumption)
  · exact .inr (.inl (by assumption))
  · exact .inr (.inr (by assumption))
  · cases h
theorem glB_ok {X : Cx} {x : Str} (h : glB X.env.scope x = true) : Gl X x ∧ (x == ("__debug__" : Str)) = false := by
  unfold glB at h
  rw [Bool.and_eq_true] at h
  refine ⟨?_, by simpa using h.2⟩
  have h := h.1
  split at h
  · assumption
  · cases h
abbrev Ck := Bool → Scope → E → Expr → Bool
def Snd (T : Tb) (C : Cg) (ck : Ck) : Prop := ∀ (X : Cx) (w : Wd) (sc : Scope) (e : E) (a : Expr), Okc T C sc X w → (ck false sc e a = true → PE X a (trE T X w e)) ∧ (ck true sc e a = true → PT X a (trT T X w e))
/-- its truth is asked of its value -/
def isV : Expr → Bool
  | .BoolOp _ _ _ => false
  | .Compare _ _ _ _ => false
  | .UnaryOp .Not _ _ => false
  | .IfExp _ _ _ _ => false
  | .NamedExpr _ _ _ => false
  | .Constant _ _ _ => false
  | _ => true
theorem isV_ok {a : Expr} (h : isV a = true) (env : Env) (whole : Sem Value) : isTrue a env whole = (do let v ← whole; standAt a.pos; holding [v] (truthy v)) := by
  cases a with
  | UnaryOp op x pos => cases op <;> first | rfl | cases h
  | _ => first | rfl | cases h
section
variable {T : Tb} {C : Cg} {ck : Ck} {X : Cx} {w : Wd} {sc : Scope} {a : Expr} {e ea eb ec : E} {les : List E}
theorem Okc.blk (O : Okc T C sc X w) (s : Shared) (H : Hp) (scope : Scope) (cl : List (Str × Addr)) (Ca : Addr) (fp : List Addr) : Okc T C (relS scope sc) (X.blk s H scope (compEnvC scope cl Ca X.env) fp) w where
  N := O.N
  nd := O.nd
  sc := by rw [← O.sc]; rfl
  calm := O.calm
  hu := O.hu
  bi := O.bi
  fn := fun f x n h => ⟨(O.fn f x n h).ar, (O.fn f x n h).ex⟩
  gl := fun k x h => ⟨(O.gl k x h).ex⟩
def ckC (x : W) (a : Expr) : Bool := match a with
  | .Constant k _ _ => match constW k with
    | some y => decide (y = x)
    | none => false
  | _ => false
theorem s_c {x : W} (h : ckC x a = true) : PE X a (trE T X w (.c x)) := by
  unfold ckC at h
  split at h
  · split at h
    · exact tr_const (by rename_i e; rw [e, of_decide_eq_true h])
    · cases h
  · cases h
def ckV (C : Cg) (sc : Scope) (i : Nat) (a : Expr) : Bool := match a with
  | .Name x _ => decide (C.N[i]? = some x) && visB sc x && !(x == ("__debug__" : Str)) && !(x == ("__classdict__" : Str))
  | _ => false
theorem s_v {i : Nat} (O : Okc T C sc X w) (h : ckV C sc i a = true) : PE X a (trE T X w (.v i)) := by
  unfold ckV at h
  split at h
  · simp only [Bool.and_eq_true, decide_eq_true_eq, Bool.not_eq_true'] at h
    obtain ⟨⟨⟨h1, h2⟩, h3⟩, h4⟩ := h
    exact tr_var (by rw [O.N]; exact h1) (by rw [O.sc]; exact visB_ok h2) h3 h4
  · cases h
def ckG (C : Cg) (sc : Scope) (k : Nat) (a : Expr) : Bool := match a with
  | .Name x _ => decide (C.gl k = some x) && glB sc x
  | _ => false
theorem s_g {k : Nat} (O : Okc T C sc X w) (h : ckG C sc k a = true) : PE X a (trE T X w (.g k)) := by
  unfold ckG at h
  split at h
  · simp only [Bool.and_eq_true, decide_eq_true_eq] at h
    have g := glB_ok (X := X) (by rw [O.sc]; exact h.2)
    exact tr_glob (O.gl k _ h.1) g.1 g.2
  · cases h
def bopB : Operator → Option Bop
  | .Add => some .add | .Sub => some .sub | .Mult => some .mul | .Mod => some .mod | .FloorDiv => some .fdiv | .Pow => some .pow
  | _ => none
theorem bopB_ok {o : Operator} {b : Bop} (h : bopB o = some b) : o = bopOf b := by
  cases o <;> cases h <;> rfl
def ckBin (ck : Ck) (sc : Scope) (op : Bop) (ea eb : E) (a : Expr) : Bool := match a with
  | .BinOp a o b _ => decide (bopB o = some op) && ck false sc ea a && ck false sc eb b
  | _ => false
theorem s_bin {op : Bop} (S : Snd T C ck) (O : Okc T C sc X w) (h : ckBin ck sc op ea eb a = true) : PE X a (trE T X w (.bin op ea eb)) := by
  unfold ckBin at h
  split at h
  · simp only [Bool.and_eq_true, decide_eq_true_eq] at h
    rw [bopB_ok h.1.1]
    exact tr_bin ((S X w sc _ _ O).1 h.1.2) ((S X w sc _ _ O).1 h.2)
  · cases h
def ckNeg (ck : Ck) (sc : Scope) (ea : E) (a : Expr) : Bool := match a with
  | .UnaryOp .USub a _ => ck false sc ea a
  | _ => false
theorem s_neg (S : Snd T C ck) (O : Okc T C sc X w) (h : ckNeg ck sc ea a = true) : PE X a (trE T X w (.neg ea)) := by
  unfold ckNeg at h
  split at h
  · exact tr_neg ((S X w sc _ _ O).1 h)
  · cases h
def copB : CmpOp → Option Cop
  | .Eq => some .eq | .NotEq => some .ne | .Lt => some .lt | .LtE => some .le | .Gt => some .gt | .GtE => some .ge | .Is => some .isn | .IsNot => some .notn | .In => some .inn | .NotIn => some .nin
theorem copB_ok {o : CmpOp} {b : Cop} (h : copB o = some b) : o = copOf b := by
  cases o <;> cases h <;> rfl
def ckCmp (ck : Ck) (sc : Scope) (op : Cop) (ea eb : E) (a : Expr) : Bool := match a with
  | .Compare a [o] [b] _ => decide (copB o = some op) && !(behindInMarks o b) && ck false sc ea a && ck false sc eb b
  | _ => false
theorem s_cmp {op : Cop} (S : Snd T C ck) (O : Okc T C sc X w) (h : ckCmp ck sc op ea eb a = true) : PE X a (trE T X w (.cmp op ea eb)) ∧ PT X a (trT T X w (.cmp op ea eb)) := by
  unfold ckCmp at h
  split at h
  · simp only [Bool.and_eq_true, decide_eq_true_eq, Bool.not_eq_true'] at h
    have e := copB_ok h.1.1.1
    have m := h.1.1.2
    subst e
    exact ⟨tr_cmp O.hu m ((S X w sc _ _ O).1 h.1.2) ((S X w sc _ _ O).1 h.2), tt_cmp O.hu m ((S X w sc _ _ O).1 h.1.2) ((S X w sc _ _ O).1 h.2)⟩
  · cases h
def ckChain (ck : Ck) (sc : Scope) (o1 o2 : Cop) (ea eb ec : E) (a : Expr) : Bool := match a with
  | .Compare a [p, q] [b, c] _ => decide (copB p = some o1) && decide (copB q = some o2) && !(lastMarks [p, q] [b, c]) && ck false sc ea a && ck false sc eb b && ck false sc ec c
  | _ => false
theorem s_chain {o1 o2 : Cop} (S : Snd T C ck) (O : Okc T C sc X w) (h : ckChain ck sc o1 o2 ea eb ec a = true) : PE X a (trE T X w (.chain o1 o2 ea eb ec)) ∧ PT X a (trT T X w (.chain o1 o2 ea eb ec)) := by
  unfold ckChain at h
  split at h
  · simp only [Bool.and_eq_true, decide_eq_true_eq, Bool.not_eq_true'] at h
    have e1 := copB_ok h.1.1.1.1.1
    have e2 := copB_ok h.1.1.1.1.2
    have m := h.1.1.1.2
    subst e1 e2
    exact ⟨tr_chain O.hu ((S X w sc _ _ O).1 h.1.1.2) ((S X w sc _ _ O).1 h.1.2) ((S X w sc _ _ O).1 h.2) m, tt_chain O.hu ((S X w sc _ _ O).1 h.1.1.2) ((S X w sc _ _ O).1 h.1.2) ((S X w sc _ _ O).1 h.2) m⟩
  · cases h
def ckAnd (ck : Ck) (t : Bool) (sc : Scope) : E → List Expr → Bool
  | e, [a] => ck t sc e a
  | .and ea eb, a :: b :: r => ck t sc ea a && ckAnd ck t sc eb (b :: r)
  | _, _ => false
def ckOr (ck : Ck) (t : Bool) (sc : Scope) : E → List Expr → Bool
  | e, [a] => ck t sc e a
  | .or ea eb, a :: b :: r => ck t sc ea a && ckOr ck t sc eb (b :: r)
  | _, _ => false
theorem s_andE (S : Snd T C ck) (O : Okc T C sc X w) (pos : Pos) : ∀ (l : List Expr) (e : E), ckAnd ck false sc e l = true → PE X (.BoolOp .And l pos) (trE T X w e)
  | [], e, h => by cases e <;> cases h
  | [a], e, h => pe_one ((S X w sc _ _ O).1 (by cases e <;> exact h))
  | a :: b :: r, e, h => by
    cases e with
    | and ea eb =>
      have h : (ck false sc ea a && ckAnd ck false sc eb (b :: r)) = true := h
      rw [Bool.and_eq_true] at h
      exact tr_and ((S X w sc _ _ O).1 h.1) (s_andE S O pos (b :: r) eb h.2)
    | _ => cases h
theorem s_orE (S : Snd T C ck) (O : Okc T C sc X w) (pos : Pos) : ∀ (l : List Expr) (e : E), ckOr ck false sc e l = true → PE X (.BoolOp .Or l pos) (trE T X w e)
  | [], e, h => by cases e <;> cases h
  | [a], e, h => pe_one ((S X w sc _ _ O).1 (by cases e <;> exact h))
  | a :: b :: r, e, h => by
    cases e with
    | or ea eb =>
      have h : (ck false sc ea a && ckOr ck false sc eb (b :: r)) = true := h
      rw [Bool.and_eq_true] at h
      exact tr_or ((S X w sc _ _ O).1 h.1) (s_orE S O pos (b :: r) eb h.2)
    | _ => cases h
theorem s_andW (S : Snd T C ck) (O : Okc T C sc X w) (pos : Pos) : ∀ (l : List Expr) (e : E), ckAnd ck true sc e l = true → PW X (.BoolOp .And l pos) (trT T X w e)
  | [], e, h => by cases e <;> cases h
  | [a], e, h => tw_and1 ((S X w sc _ _ O).2 (by cases e <;> exact h))
  | a :: b :: r, e, h => by
    cases e with
    | and ea eb =>
      have h : (ck true sc ea a && ckAnd ck true sc eb (b :: r)) = true := h
      rw [Bool.and_eq_true] at h
      exact tw_and ((S X w sc _ _ O).2 h.1) (s_andW S O pos (b :: r) eb h.2)
    | _ => cases h
theorem s_orW (S : Snd T C ck) (O : Okc T C sc X w) (pos : Pos) : ∀ (l : List Expr) (e : E), ckOr ck true sc e l = true → PW X (.BoolOp .Or l pos) (trT T X w e)
  | [], e, h => by cases e <;> cases h
  | [a], e, h => tw_or1 ((S X w sc _ _ O).2 (by cases e <;> exact h))
  | a :: b :: r, e, h => by
    cases e with
    | or ea eb =>
      have h : (ck true sc ea a && ckOr ck true sc eb (b :: r)) = true := h
      rw [Bool.and_eq_true] at h
      exact tw_or ((S X w sc _ _ O).2 h.1) (s_orW S O pos (b :: r) eb h.2)
    | _ => cases h
def ckBool (ck : Ck) (t : Bool) (sc : Scope) (e : E) (a : Expr) : Bool := match a with
  | .BoolOp .And (x :: y :: l) _ => ckAnd ck t sc e (x :: y :: l)
  | .BoolOp .Or (x :: y :: l) _ => ckOr ck t sc e (x :: y :: l)
  | _ => false
theorem s_boolE (S : Snd T C ck) (O : Okc T C sc X w) (h : ckBool ck false sc e a = true) : PE X a (trE T X w e) := by
  unfold ckBool at h
  split at h
  · exact s_andE S O _ _ _ h
  · exact s_orE S O _ _ _ h
  · cases h
theorem s_boolT (S : Snd T C ck) (O : Okc T C sc X w) (h : ckBool ck true sc e a = true) : PT X a (trT T X w e) := by
  unfold ckBool at h
  split at h
  · exact (s_andW S O _ _ _ h).pt
  · exact (s_orW S O _ _ _ h).pt
  · cases h
def ckNot (ck : Ck) (t : Bool) (sc : Scope) (ea : E) (a : Expr) : Bool := match a with
  | .UnaryOp .Not a _ => ck t sc ea a
  | _ => false
theorem s_notE (S : Snd T C ck) (O : Okc T C sc X w) (h : ckNot ck false sc ea a = true) : PE X a (trE T X w (.not ea)) := by
  unfold ckNot at h
  split at h
  · exact tr_not ((S X w sc _ _ O).1 h)
  · cases h
theorem s_notT (S : Snd T C ck) (O : Okc T C sc X w) (h : ckNot ck true sc ea a = true) : PT X a (trT T X w (.not ea)) := by
  unfold ckNot at h
  split at h
  · exact tt_not ((S X w sc _ _ O).2 h)
  · cases h
def ckIte (ck : Ck) (sc : Scope) (ec ea eb : E) (a : Expr) : Bool := match a with
  | .IfExp c a b _ => ck true sc ec c && ck false sc ea a && ck false sc eb b
  | _ => false
theorem s_ite (S : Snd T C ck) (O : Okc T C sc X w) (h : ckIte ck sc ec ea eb a = true) : PE X a (trE T X w (.ite ec ea eb)) := by
  unfold ckIte at h
  split at h
  · simp only [Bool.and_eq_true] at h
    exact tr_ite ((S X w sc _ _ O).2 h.1.1) ((S X w sc _ _ O).1 h.1.2) ((S X w sc _ _ O).1 h.2)
  · cases h
def ckL (ck : Ck) (sc : Scope) : List E → List Expr → Bool
  | [], [] => true
  | e :: les, a :: es => notStar a && ck false sc e a && ckL ck sc les es
  | _, _ => false
theorem s_L (S : Snd T C ck) (O : Okc T C sc X w) : ∀ (les : List E) (es : List Expr), ckL ck sc les es = true → PA X es (trA T X w les) ∧ PA X es (trW T X w les) ∧ (∀ x ∈ es, notStar x = true) ∧ es.length = les.length
  | [], [], _ => ⟨ta_nil, tw_nil, fun x h => (nomatch h), rfl⟩
  | [], _ :: _, h => by cases h
  | _ :: _, [], h => by cases h
  | e :: les, a :: es, h => by
    simp only [ckL, Bool.and_eq_true] at h
    obtain ⟨h1, h2, h3, h4⟩ := s_L S O les es h.2
    have pa := (S X w sc _ _ O).1 h.1.2
    exact ⟨ta_cons h.1.1 pa h1, tw_cons h.1.1 pa h2, fun x hx => by
      rcases List.mem_cons.mp hx with rfl | hx
      · exact h.1.1
      · exact h3 x hx, by simp [h4]⟩
def ckLst (ck : Ck) (sc : Scope) (les : List E) (a : Expr) : Bool := match a with
  | .List es _ => ckL ck sc les es
  | _ => false
theorem s_lst (S : Snd T C ck) (O : Okc T C sc X w) (h : ckLst ck sc les a = true) : PE X a (trE T X w (.lst les)) := by
  unfold ckLst at h
  split at h
  · exact tr_lst (s_L S O _ _ h).2.1
  · cases h
def ckTup (ck : Ck) (sc : Scope) (les : List E) (a : Expr) : Bool := match a with
  | .Tuple es _ _ => ckL ck sc les es
  | _ => false
theorem s_tup (S : Snd T C ck) (O : Okc T C sc X w) (h : ckTup ck sc les a = true) : PE X a (trE T X w (.tup les)) := by
  unfold ckTup at h
  split at h
  · exact tr_tup (s_L S O _ _ h).2.1
  · cases h
def ckIdx (ck : Ck) (sc : Scope) (ea eb : E) (a : Expr) : Bool := match a with
  | .Subscript a b _ => notSlice b && ck false sc ea a && ck false sc eb b
  | _ => false
theorem s_idx (S : Snd T C ck) (O : Okc T C sc X w) (h : ckIdx ck sc ea eb a = true) : PE X a (trE T X w (.idx ea eb)) := by
  unfold ckIdx at h
  split at h
  · simp only [Bool.and_eq_true] at h
    exact tr_idx O.hu h.1.1 ((S X w sc _ _ O).1 h.1.2) ((S X w sc _ _ O).1 h.2)
  · cases h
def ckO (ck : Ck) (sc : Scope) : Option E → Option Expr → Bool
  | none, none => true
  | some e, some a => ck false sc e a
  | _, _ => false
theorem s_O {eo : Option E} {ao : Option Expr} (S : Snd T C ck) (O : Okc T C sc X w) (h : ckO ck sc eo ao = true) : PO X ao (trO T X w eo) := by
  cases eo <;> cases ao <;> first | cases h | skip
  · exact to_none
  · exact to_some ((S X w sc _ _ O).1 h)
def ckSlc (ck : Ck) (sc : Scope) (ea : E) (lo hi : Option E) (a : Expr) : Bool := match a with
  | .Subscript a (.Slice l h none _) _ => ck false sc ea a && ckO ck sc lo l && ckO ck sc hi h
  | _ => false
theorem s_slc {lo hi : Option E} (S : Snd T C ck) (O : Okc T C sc X w) (h : ckSlc ck sc ea lo hi a = true) : PE X a (trE T X w (.slc ea lo hi)) := by
  unfold ckSlc at h
  split at h
  · simp only [Bool.and_eq_true] at h
    exact tr_slc ((S X w sc _ _ O).1 h.1.1) (s_O S O h.1.2) (s_O S O h.2)
  · cases h
def ckCall (C : Cg) (ck : Ck) (sc : Scope) (f : Nat) (les : List E) (a : Expr) : Bool := match a with
  | .Call (.Name x _) es [] _ => (match C.fn f with
    | some (y, _) => decide (y = x)
    | none => false) && glB sc x && ckL ck sc les es
  | _ => false
theorem s_call {f : Nat} (S : Snd T C ck) (O : Okc T C sc X w) (h : ckCall C ck sc f les a = true) : PE X a (trE T X w (.call f les)) := by
  unfold ckCall at h
  split at h
  · simp only [Bool.and_eq_true] at h
    have h1 := h.1.1
    split at h1
    · rename_i y n hf
      have e := of_decide_eq_true h1
      subst e
      have g := glB_ok (X := X) (by rw [O.sc]; exact h.1.2)
      obtain ⟨q1, q2, q3, q4⟩ := s_L S O _ _ h.2
      exact tr_call (O.fn f _ n hf) g.1 g.2 q3 q4 q1
    · cases h1
  · cases h
end
end Mi
/-! what is checked of a text: built-in calls, comprehensions; all expressions -/
namespace Mi
open PySem PySem.Spec PyProof.Rows L2
section
variable {T : Tb} {C : Cg} {ck : Ck} {X : Cx} {w : Wd} {sc : Scope} {a : Expr} {e ea eb ec : E} {les : List E}
/-! ### built-in calls -/
def fnS : Fb → Option Str
  | .len => some "len" | .str => some "str" | .int => some "int" | .list => some "list" | .tuple => some "tuple"
  | _ => none
def ckFn (ck : Ck) (sc : Scope) (b : Fb) (les : List E) (a : Expr) : Bool := match a with
  | .Call (.Name x _) (a :: es) [] _ => decide (fnS b = some x) && glB sc x && ckL ck sc les (a :: es)
  | _ => false
theorem s_fn {b : Fb} (S : Snd T C ck) (O : Okc T C sc X w) (h : ckFn ck sc b les a = true) : PE X a (trE T X w (.fn b les)) := by
  unfold ckFn at h
  split at h
  · simp only [Bool.and_eq_true, decide_eq_true_eq] at h
    have g := glB_ok (X := X) (by rw [O.sc]; exact h.1.2)
    obtain ⟨q1, q2, q3, q4⟩ := s_L S O _ _ h.2
    have hs := q3 _ List.mem_cons_self
    have hp := fun pos => noPos (pos := pos) (env := X.env) fun e he => q3 e (List.mem_cons_of_mem _ he)
    have hx := h.1.1
    cases b with
    | len =>
      cases hx
      exact tr_fn1 (fun _ _ => rfl) sem_len g.1 (O.bi _ (by simp [biNames])) rfl (by decide) g.2 hs (hp _) q1
    | str =>
      cases hx
      exact tr_fnT (fun _ _ => rfl) sem_str g.1 (O.bi _ (by simp [biNames])) rfl (by decide) g.2 hs (hp _) q1
    | int =>
      cases hx
      exact tr_fnT (fun _ _ => rfl) sem_int g.1 (O.bi _ (by simp [biNames])) rfl (by decide) g.2 hs (hp _) q1
    | list =>
      cases hx
      exact tr_fnT (fun _ _ => rfl) sem_list g.1 (O.bi _ (by simp [biNames])) rfl (by decide) g.2 hs (hp _) q1
    | tuple =>
      cases hx
      exact tr_fnT (fun _ _ => rfl) sem_tuple g.1 (O.bi _ (by simp [biNames])) rfl (by decide) g.2 hs (hp _) q1
    | _ => cases hx
  · cases h
def tyB : Ty → Option Str
  | .int => some "int" | .bool => some "bool" | .str => some "str" | .tuple => some "tuple" | .list => some "list"
  | .exc _ => none
theorem ty_name {t : Ty} {x : Str} (O : Okc T C sc X w) (h : tyB t = some x) (hg : glB sc x = true) : TyName X t x := by
  have g := glB_ok (X := X) (x := x) (by rw [O.sc]; exact hg)
  cases t with
  | exc c => cases h
  | int => cases h; exact ⟨g.1, O.bi _ (by simp [biNames]), rfl, by decide, g.2⟩
  | bool => cases h; exact ⟨g.1, O.bi _ (by simp [biNames]), rfl, by decide, g.2⟩
  | str => cases h; exact ⟨g.1, O.bi _ (by simp [biNames]), rfl, by decide, g.2⟩
  | tuple => cases h; exact ⟨g.1, O.bi _ (by simp [biNames]), rfl, by decide, g.2⟩
  | list => cases h; exact ⟨g.1, O.bi _ (by simp [biNames]), rfl, by decide, g.2⟩
def ckIsi (ck : Ck) (sc : Scope) (ea : E) (ts : List Ty) (a : Expr) : Bool := match a with
  | .Call (.Name x _) [a, .Name y _] [] _ => decide (x = "isinstance") && glB sc x && notStar a && ck false sc ea a && glB sc y && (match ts with
    | [t] => decide (tyB t = some y)
    | _ => false)
  | .Call (.Name x _) [a, .Tuple [.Name y _, .Name z _] _ _] [] _ => decide (x = "isinstance") && glB sc x && notStar a && ck false sc ea a && (glB sc y && glB sc z) && (match ts with
    | [t, u] => decide (tyB t = some y) && decide (tyB u = some z)
    | _ => false)
  | _ => false
theorem s_isi {ts : List Ty} (S : Snd T C ck) (O : Okc T C sc X w) (h : ckIsi ck sc ea ts a = true) : PE X a (trE T X w (.isi ea ts)) := by
  unfold ckIsi at h
  split at h
  · simp only [Bool.and_eq_true, decide_eq_true_eq] at h
    obtain ⟨⟨⟨⟨⟨h1, h2⟩, h3⟩, h4⟩, h5⟩, h6⟩ := h
    subst h1
    have g := glB_ok (X := X) (by rw [O.sc]; exact h2)
    split at h6
    · exact tr_isi1 g.1 (O.bi _ (by simp [biNames])) rfl (by decide) g.2 h3 (ty_name O (of_decide_eq_true h6) h5) ((S X w sc _ _ O).1 h4)
    · cases h6
  · simp only [Bool.and_eq_true, decide_eq_true_eq] at h
    obtain ⟨⟨⟨⟨⟨h1, h2⟩, h3⟩, h4⟩, h5⟩, h6⟩ := h
    subst h1
    have g := glB_ok (X := X) (by rw [O.sc]; exact h2)
    split at h6
    · simp only [Bool.and_eq_true, decide_eq_true_eq] at h6
      exact tr_isi2 g.1 (O.bi _ (by simp [biNames])) rfl (by decide) g.2 h3 (ty_name O h6.1 h5.1) (ty_name O h6.2 h5.2) ((S X w sc _ _ O).1 h4)
    · cases h6
  · cases h
def mtS : Mb → Option Str
  | .split => some "split" | .join => some "join" | .append => some "append"
  | _ => none
def ckMt (ck : Ck) (sc : Scope) (m : Mb) (ea : E) (les : List E) (a : Expr) : Bool := match a with
  | .Call (.Attribute a name apos) [b] [] pos => (match les with
    | [eb] => decide (mtS m = some name) && notCall0 a && notStar b && (apos.endLine == pos.line) && ck false sc ea a && ckL ck sc [eb] [b]
    | _ => false)
  | _ => false
theorem s_mt {m : Mb} (S : Snd T C ck) (O : Okc T C sc X w) (h : ckMt ck sc m ea les a = true) : PE X a (trE T X w (.mt ea m les)) := by
  unfold ckMt at h
  split at h
  · split at h
    · simp only [Bool.and_eq_true, decide_eq_true_eq] at h
      obtain ⟨⟨⟨⟨⟨h1, h2⟩, h3⟩, h4⟩, h5⟩, h6⟩ := h
      obtain ⟨q1, _⟩ := s_L S O _ _ h6
      have pa := (S X w sc _ _ O).1 h5
      cases m with
      | split => cases h1; exact tr_split h2 h3 h4 pa q1
      | join => cases h1; exact tr_join h2 h3 h4 pa q1
      | append => cases h1; exact tr_append h2 h3 h4 pa q1
      | _ => cases h1
    · cases h
  · cases h
/-! ### targets, walks -/
def locB (sc : Scope) (x : Str) : Bool := match sc.names.lookup x with
  | some .local => true
  | _ => false
theorem locB_ok {sc : Scope} {x : Str} (h : locB sc x = true) : sc.names.lookup x = some .local := by
  unfold locB at h
  split at h
  · assumption
  · cases h
def locC (sc : Scope) (x : Str) : Bool := match sc.names.lookup x with
  | some .local => true
  | some .cell => true
  | _ => false
theorem locC_ok {sc : Scope} {x : Str} (h : locC sc x = true) : sc.names.lookup x = some .local ∨ sc.names.lookup x = some .cell := by
  unfold locC at h
  split at h
  · exact .inl (by assumption)
  · exact .inr (by assumption)
  · cases h
/-- a name that may be stored to -/
def TgName (X : Cx) (x : Str) : Prop := L2.Loc X.env.scope x ∧ (X.fn x = true ∨ X.env.scope.names.lookup x = some .local)
theorem relS_cell {sc : Scope} {x : Str} : ∀ {names : List (Str × NameKind)}, names.lookup x = some .cell → (names.map fun (n, k) => if (k == .free && sc.kind == .function && sc.names.lookup n == some .cell) then (n, NameKind.cell) else (n, k)).lookup x = some .cell
  | [], h => by cases h
  | (n, k) :: r, h => by
    have ih := @relS_cell sc x r
    rw [List.map_cons]
    rw [List.lookup_cons] at h
    cases hx : x == n with
    | true =>
      rw [hx] at h
      cases h
      show List.lookup x ((n, NameKind.cell) :: _) = _
      rw [List.lookup_cons, hx]
    | false =>
      rw [hx] at h
      show List.lookup x ((if (k == .free && sc.kind == .function && sc.names.lookup n == some .cell) = true then (n, NameKind.cell) else (n, k)) :: _) = _
      split
      · rw [List.lookup_cons, hx]; exact ih h
      · rw [List.lookup_cons, hx]; exact ih h
theorem relS_local {sc : Scope} {x : Str} : ∀ {names : List (Str × NameKind)}, names.lookup x = some .local → (names.map fun (n, k) => if (k == .free && sc.kind == .function && sc.names.lookup n == some .cell) then (n, NameKind.cell) else (n, k)).lookup x = some .local
  | [], h => by cases h
  | (n, k) :: r, h => by
    have ih := @relS_local sc x r
    rw [List.map_cons]
    rw [List.lookup_cons] at h
    cases hx : x == n with
    | true =>
      rw [hx] at h
      cases h
      show List.lookup x ((n, NameKind.local) :: _) = _
      rw [List.lookup_cons, hx]
    | false =>
      rw [hx] at h
      show List.lookup x ((if (k == .free && sc.kind == .function && sc.names.lookup n == some .cell) = true then (n, NameKind.cell) else (n, k)) :: _) = _
      split
      · rw [List.lookup_cons, hx]; exact ih h
      · rw [List.lookup_cons, hx]; exact ih h
theorem blk_name (O : Okc T C sc X w) {s : Shared} {H : Hp} {scope : Scope} {cl : List (Str × Addr)} {Ca : Addr} {fp : List Addr} {x : Str} (h : locC scope x = true) : TgName (X.blk s H scope (compEnvC scope cl Ca X.env) fp) x := by
  have e : (X.blk s H scope (compEnvC scope cl Ca X.env) fp).env.scope = relS scope sc := (O.blk s H scope cl Ca fp).sc
  unfold TgName L2.Loc
  rw [e]
  rcases locC_ok h with h | h
  · exact ⟨.inl (relS_local h), .inr (relS_local h)⟩
  · refine ⟨.inr (relS_cell h), .inl ?_⟩
    show (scope.names.lookup x == some .cell) = true
    rw [h]; rfl
def ckNames (C : Cg) (sc : Scope) : List Nat → List Expr → Bool
  | [], [] => true
  | i :: is, .Name x _ :: es => decide (C.N[i]? = some x) && locC sc x && ckNames C sc is es
  | _, _ => false
theorem s_names {scX sr : Scope} (O : Okc T C scX X w) (hT : ∀ x, locC sr x = true → TgName X x) : ∀ (tg : List Nat) (es : List Expr), ckNames C sr tg es = true → PGs X es (gNames tg) ∧ (assignEach es X.env).length = tg.length ∧ List.findIdx? (fun x => x.1) (assignEach es X.env) = none
  | [], [], _ => ⟨pgs_nil, rfl, rfl⟩
  | [], _ :: _, h => by cases h
  | _ :: _, [], h => by cases h
  | i :: is, e :: es, h => by
    cases e with
    | Name x p =>
      simp only [ckNames, Bool.and_eq_true, decide_eq_true_eq] at h
      obtain ⟨h1, h2, h3⟩ := s_names O hT is es h.2
      obtain ⟨hl, hf⟩ := hT x h.1.2
      refine ⟨pgs_cons (pg_name O.nd (by rw [O.N]; exact h.1.1) hl hf) h1 rfl, ?_, ?_⟩
      · show (assignEach es X.env).length + 1 = _
        rw [h2]; rfl
      · show List.findIdx? _ ((false, _) :: assignEach es X.env) = none
        rw [List.findIdx?_cons]
        simp [h3]
    | _ => cases h
def ckTg (C : Cg) (sc : Scope) (tg : List Nat) (a : Expr) : Bool := match a with
  | .Name x _ => (match tg with
    | [i] => decide (C.N[i]? = some x) && locC sc x
    | _ => false)
  | .Tuple es _ _ => decide (tg.length ≠ 1) && ckNames C sc tg es
  | _ => false
def tgG (K : PySem.W.Frag) : List Nat → TG
  | [i] => gName i
  | tg => gTup K tg.length (gNames tg)
theorem s_tg {scX sr : Scope} {tg : List Nat} (O : Okc T C scX X w) (hT : ∀ x, locC sr x = true → TgName X x) (h : ckTg C sr tg a = true) : PG X a (tgG X.K tg) := by
  unfold ckTg at h
  split at h
  · split at h
    · simp only [Bool.and_eq_true, decide_eq_true_eq] at h
      obtain ⟨hl, hf⟩ := hT _ h.2
      exact pg_name O.nd (by rw [O.N]; exact h.1) hl hf
    · cases h
  · simp only [Bool.and_eq_true, decide_eq_true_eq] at h
    obtain ⟨h1, h2, h3⟩ := s_names O hT _ _ h.2
    have e : tgG X.K tg = gTup X.K tg.length (gNames tg) := by
      unfold tgG
      split
      · exact absurd rfl h.1
      · rfl
    rw [e]
    exact pg_tup O.calm h1 h2 h3
  · cases h
theorem tgG_ok {own tg : List Nat} (h : ∀ i ∈ tg, i ∈ own) : TgOk (Kx X) own tg (tgG X.K tg) := by
  unfold tgG
  split
  · exact tg_one (h _ List.mem_cons_self)
  · rename_i q
    refine tg_tup h fun z => ?_
    match tg, z with
    | [i], _ => exact q i rfl
def ckWalk (ck : Ck) (sc : Scope) (ik : Ik) (src : List E) (at_ ai : Expr) : Bool := match ik with
  | .of => (match src with
    | [e] => ck false sc e ai
    | _ => false)
  | .rng => (match ai with
    | .Call (.Name x _) [a] [] _ => decide (x = "range") && glB sc x && (match src with
      | [_] => ckL ck sc src [a]
      | _ => false)
    | .Call (.Name x _) [a, b] [] _ => decide (x = "range") && glB sc x && (match src with
      | [_, _] => ckL ck sc src [a, b]
      | _ => false)
    | _ => false)
  | .enm => (match ai with
    | .Call (.Name x _) [a] [] _ => decide (x = "enumerate") && glB sc x && (match src with
      | [_] => ckL ck sc src [a]
      | _ => false) && (match at_ with
        | .Tuple _ _ _ => true
        | _ => false)
    | _ => false)
  | _ => false
theorem s_walk {ik : Ik} {src : List E} {at_ ai : Expr} (S : Snd T C ck) (O : Okc T C sc X w) (h : ckWalk ck sc ik src at_ ai = true) : Walk T X w at_ ai ik src := by
  unfold ckWalk at h
  split at h
  · split at h
    · exact so_of ((S X w sc _ _ O).1 h)
    · cases h
  · split at h
    · simp only [Bool.and_eq_true, decide_eq_true_eq] at h
      obtain ⟨⟨h1, h2⟩, h3⟩ := h
      subst h1
      have g := glB_ok (X := X) (by rw [O.sc]; exact h2)
      split at h3
      · obtain ⟨q1, _, q3, _⟩ := s_L S O _ _ h3
        exact so_rng1 g.1 (O.bi _ (by simp [biNames])) (q3 _ (by simp)) q1
      · cases h3
    · simp only [Bool.and_eq_true, decide_eq_true_eq] at h
      obtain ⟨⟨h1, h2⟩, h3⟩ := h
      subst h1
      have g := glB_ok (X := X) (by rw [O.sc]; exact h2)
      split at h3
      · obtain ⟨q1, _, q3, _⟩ := s_L S O _ _ h3
        exact so_rng2 g.1 (O.bi _ (by simp [biNames])) (q3 _ (by simp)) (q3 _ (by simp)) q1
      · cases h3
    · cases h
  · split at h
    · simp only [Bool.and_eq_true, decide_eq_true_eq] at h
      obtain ⟨⟨⟨h1, h2⟩, h3⟩, h4⟩ := h
      subst h1
      have g := glB_ok (X := X) (by rw [O.sc]; exact h2)
      split at h4
      · split at h3
        · obtain ⟨q1, _, q3, _⟩ := s_L S O _ _ h3
          exact so_enum g.1 (O.bi _ (by simp [biNames])) (q3 _ (by simp)) q1
        · cases h3
      · cases h4
    · cases h
  · cases h
/-! ### comprehensions -/
def ownP (C : Cg) (own : List Nat) : List (Str × Nat) := own.map fun i => ((C.N[i]?).getD "", i)
theorem ownP_snd (C : Cg) (own : List Nat) : (ownP C own).map (·.2) = own := by
  unfold ownP
  rw [List.map_map]
  exact List.map_id own
def ckIf (ck : Ck) (sc : Scope) (c : Option E) (ifs : List Expr) : Bool := match c, ifs with
  | none, [] => true
  | some e, [a] => ck true sc e a
  | _, _ => false
theorem s_if {c : Option E} {ifs : List Expr} (S : Snd T C ck) (O : Okc T C sc X w) (h : ckIf ck sc c ifs = true) : PTs X ifs (trC T X w c) := by
  unfold ckIf at h
  split at h
  · exact pts_nil
  · exact pts_one ((S X w sc _ _ O).2 h)
  · cases h
def ckLc (C : Cg) (ck : Ck) (sc : Scope) (own tg : List Nat) (ik : Ik) (src : List E) (cond : Option E) (elt : E) (a : Expr) : Bool := match a with
  | .ListComp ae [⟨at_, ai, ifs, 0⟩] scope _ => blkC C.N sc scope (ownP C own) && notSet ai && tg.all (fun i => decide (i ∈ own)) && ckTg C scope tg at_ && ckIf ck (relS scope sc) cond ifs && ck false (relS scope sc) elt ae && ckWalk ck sc ik src at_ ai
  | _ => false
theorem s_lc {own tg : List Nat} {ik : Ik} {src : List E} {cond : Option E} {elt : E} (S : Snd T C ck) (O : Okc T C sc X w) (h : ckLc C ck sc own tg ik src cond elt a = true) : PE X a (trE T X w (.lc own tg ik src cond elt)) := by
  unfold ckLc at h
  split at h
  · simp only [Bool.and_eq_true, List.all_eq_true, decide_eq_true_eq] at h
    obtain ⟨⟨⟨⟨⟨⟨h1, h2⟩, h3⟩, h4⟩, h5⟩, h6⟩, h7⟩ := h
    refine tr_lc O.calm O.nd (blkOk_by (by rw [O.N, O.sc]; exact h1)) (ownP_snd C own) h2 (tgG_ok h3) (fun s H Ca cl fp => ?_) (fun s H Ca cl fp => ?_) (fun s H Ca cl fp => ?_) (s_walk S O h7)
    · exact s_tg (O.blk s H _ cl Ca fp) (fun x hx => blk_name O hx) h4
    · exact s_if S (O.blk s H _ cl Ca fp) h5
    · exact (S _ w _ _ _ (O.blk s H _ cl Ca fp)).1 h6
  · cases h
end
/-! ### all -/
def chk (C : Cg) : Nat → Ck
  | 0 => fun _ _ _ _ => false
  | n + 1 => fun t sc e a => match e with
    | .c x => ckC x a && !t
    | .v i => ckV C sc i a && (isV a || !t)
    | .g k => ckG C sc k a && (isV a || !t)
    | .bin op ea eb => ckBin (chk C n) sc op ea eb a && (isV a || !t)
    | .neg ea => ckNeg (chk C n) sc ea a && (isV a || !t)
    | .cmp op ea eb => ckCmp (chk C n) sc op ea eb a
    | .chain o1 o2 ea eb ec => ckChain (chk C n) sc o1 o2 ea eb ec a
    | .and ea eb => ckBool (chk C n) t sc (.and ea eb) a
    | .or ea eb => ckBool (chk C n) t sc (.or ea eb) a
    | .not ea => ckNot (chk C n) t sc ea a
    | .ite ec ea eb => ckIte (chk C n) sc ec ea eb a && (isV a || !t)
    | .lst les => ckLst (chk C n) sc les a && (isV a || !t)
    | .tup les => ckTup (chk C n) sc les a && (isV a || !t)
    | .idx ea eb => ckIdx (chk C n) sc ea eb a && (isV a || !t)
    | .slc ea lo hi => ckSlc (chk C n) sc ea lo hi a && (isV a || !t)
    | .call f les => ckCall C (chk C n) sc f les a && (isV a || !t)
    | .isi ea ts => ckIsi (chk C n) sc ea ts a && (isV a || !t)
    | .fn b les => ckFn (chk C n) sc b les a && (isV a || !t)
    | .mt ea m les => ckMt (chk C n) sc m ea les a && (isV a || !t)
    | .lc own tg ik src cond elt => ckLc C (chk C n) sc own tg ik src cond elt a && (isV a || !t)
    | _ => false
theorem both {T : Tb} {X : Cx} {w : Wd} {e : E} {a : Expr} {b : Bool → Bool} (hb : ∀ t, b t = true → PE X a (trE T X w e) ∧ (isV a || !t) = true) : (b false = true → PE X a (trE T X w e)) ∧ (b true = true → PT X a (trT T X w e)) :=
  ⟨fun h => (hb _ h).1, fun h => tt_val (hb _ h).1 (isV_ok (by
    have h2 := (hb true h).2
    simpa using h2) X.env)⟩
theorem chk_snd {T : Tb} {C : Cg} : ∀ n, Snd T C (chk C n)
  | 0 => fun X w sc e a O => ⟨fun h => (nomatch h), fun h => (nomatch h)⟩
  | n + 1 => fun X w sc e a O => by
    have S : Snd T C (chk C n) := chk_snd n
    cases e with
    | c x =>
      exact both (b := fun t => ckC x a && !t) fun t h => by
        rw [Bool.and_eq_true] at h
        exact ⟨s_c h.1, by rw [h.2, Bool.or_true]⟩
    | v i =>
      exact both (b := fun t => ckV C sc i a && (isV a || !t)) fun t h => by
        rw [Bool.and_eq_true] at h
        exact ⟨s_v O h.1, h.2⟩
    | g k =>
      exact both (b := fun t => ckG C sc k a && (isV a || !t)) fun t h => by
        rw [Bool.and_eq_true] at h
        exact ⟨s_g O h.1, h.2⟩
    | bin op ea eb =>
      exact both (b := fun t => ckBin (chk C n) sc op ea eb a && (isV a || !t)) fun t h => by
        rw [Bool.and_eq_true] at h
        exact ⟨s_bin S O h.1, h.2⟩
    | neg ea =>
      exact both (b := fun t => ckNeg (chk C n) sc ea a && (isV a || !t)) fun t h => by
        rw [Bool.and_eq_true] at h
        exact ⟨s_neg S O h.1, h.2⟩
    | cmp op ea eb => exact ⟨fun h => (s_cmp S O h).1, fun h => (s_cmp S O h).2⟩
    | chain o1 o2 ea eb ec => exact ⟨fun h => (s_chain S O h).1, fun h => (s_chain S O h).2⟩
    | and ea eb => exact ⟨fun h => s_boolE S O h, fun h => s_boolT S O h⟩
    | or ea eb => exact ⟨fun h => s_boolE S O h, fun h => s_boolT S O h⟩
    | not ea => exact ⟨fun h => s_notE S O h, fun h => s_notT S O h⟩
    | ite ec ea eb =>
      exact both (b := fun t => ckIte (chk C n) sc ec ea eb a && (isV a || !t)) fun t h => by
        rw [Bool.and_eq_true] at h
        exact ⟨s_ite S O h.1, h.2⟩
    | lst les =>
      exact both (b := fun t => ckLst (chk C n) sc les a && (isV a || !t)) fun t h => by
        rw [Bool.and_eq_true] at h
        exact ⟨s_lst S O h.1, h.2⟩
    | tup les =>
      exact both (b := fun t => ckTup (chk C n) sc les a && (isV a || !t)) fun t h => by
        rw [Bool.and_eq_true] at h
        exact ⟨s_tup S O h.1, h.2⟩
    | idx ea eb =>
      exact both (b := fun t => ckIdx (chk C n) sc ea eb a && (isV a || !t)) fun t h => by
        rw [Bool.and_eq_true] at h
        exact ⟨s_idx S O h.1, h.2⟩
    | slc ea lo hi =>
      exact both (b := fun t => ckSlc (chk C n) sc ea lo hi a && (isV a || !t)) fun t h => by
        rw [Bool.and_eq_true] at h
        exact ⟨s_slc S O h.1, h.2⟩
    | call f les =>
      exact both (b := fun t => ckCall C (chk C n) sc f les a && (isV a || !t)) fun t h => by
        rw [Bool.and_eq_true] at h
        exact ⟨s_call S O h.1, h.2⟩
    | isi ea ts =>
      exact both (b := fun t => ckIsi (chk C n) sc ea ts a && (isV a || !t)) fun t h => by
        rw [Bool.and_eq_true] at h
        exact ⟨s_isi S O h.1, h.2⟩
    | fn b les =>
      exact both (b := fun t => ckFn (chk C n) sc b les a && (isV a || !t)) fun t h => by
        rw [Bool.and_eq_true] at h
        exact ⟨s_fn S O h.1, h.2⟩
    | mt ea m les =>
      exact both (b := fun t => ckMt (chk C n) sc m ea les a && (isV a || !t)) fun t h => by
        rw [Bool.and_eq_true] at h
        exact ⟨s_mt S O h.1, h.2⟩
    | lc own tg ik src cond elt =>
      exact both (b := fun t => ckLc C (chk C n) sc own tg ik src cond elt a && (isV a || !t)) fun t h => by
        rw [Bool.and_eq_true] at h
        exact ⟨s_lc S O h.1, h.2⟩
    | _ => exact ⟨fun h => (nomatch h), fun h => (nomatch h)⟩
end Mi
/-! statements: what slots hold, ends -/
namespace Mi
open PySem PySem.Spec PyProof.Rows L2
def OwnS (σ : Sl) (σv : L2.St) (a : Addr) : Prop := ∃ (i : Nat) (o : O), σ[i]? = some (some (R.obj .own o)) ∧ σv[i]? = some (some (V.ref a))
structure RepS (K : Kw) (μ : Mu) (σ : Sl) (σv : L2.St) (H : Hp) : Prop where
  len : σ.length = σv.length
  sl : ∀ (i : Nat) (r : R), σ[i]? = some (some r) → ∃ v, σv[i]? = some (some v) ∧ AD K μ H r v
  sep : ∀ (i j : Nat) (o : O) (k : Kd) (o' : O) (a : Addr), σ[i]? = some (some (.obj .own o)) → σ[j]? = some (some (.obj k o')) → σv[i]? = some (some (.ref a)) → σv[j]? = some (some (.ref a)) → i = j
section
variable {T : Tb} {K : Kw} {μ μ' μ1 μ2 : Mu} {H H' H1 H2 H0 : Hp} {G : Gp} {σ σ1 : Sl} {σv σv1 : L2.St} {A A1 : Addr → Prop}
theorem AD.sd {r : R} {v : V} (h : AD K μ H r v) : SD K μ H r v := by
  cases r with
  | val w => exact h
  | exv _ _ => exact h.elim
  | obj k o =>
    cases k with
    | own =>
      obtain ⟨a, u, e, h1, h2, h3⟩ := h
      refine ⟨a, e, u, ?_, h2, h3⟩
      cases o with
      | lst _ => exact h1
      | dct _ => exact .inl h1
    | frz => exact h
    | _ => exact h.elim
theorem RepS.e (h : RepS K μ σ σv H) : RepE K μ σ σv H := ⟨h.len, fun i r q =>
  let ⟨v, a, b⟩ := h.sl i r q
  ⟨v, a, b.sd⟩⟩
theorem AD.ext (e : Ext K μ H μ' H') {r : R} {v : V} (h : AD K μ H r v) : AD K μ' H' r v := by
  cases r with
  | val w => exact Den.mono e.gro h
  | exv _ _ => exact h
  | obj k o =>
    cases k with
    | own => obtain ⟨a, u, e1, h1, h2, h3⟩ := h; exact ⟨a, u, e1, e.keep _ _ h1 h3, h2.mono e.gro, e.nin h1 h3⟩
    | frz => obtain ⟨a, e1, u, h1, h2, h3⟩ := h; exact ⟨a, e1, u, e.rx h1 h3, h2.mono e.gro, e.nrx h1 h3⟩
    | _ => exact h
theorem RepS.ext (h : RepS K μ σ σv H) (e : Ext K μ H μ' H') : RepS K μ' σ σv H' := ⟨h.len, fun i r q =>
  let ⟨v, a, b⟩ := h.sl i r q
  ⟨v, a, b.ext e⟩, h.sep⟩
theorem AD.obj_at {k : Kd} {o : O} {v : V} (h : AD K μ H (.obj k o) v) : ∃ a u, v = .ref a ∧ H a = some u ∧ (false, a) ∉ μ := by
  cases k with
  | own => obtain ⟨a, u, e1, h1, h2, h3⟩ := h; exact ⟨a, u, e1, h1, h3⟩
  | frz => obtain ⟨a, e1, u, h1, h2, h3⟩ := h; obtain ⟨u', q⟩ := Rd.some h1.rd; exact ⟨a, u', e1, q, h3⟩
  | _ => exact h.elim
theorem RepS.obj (h : RepS K μ σ σv H) {i : Nat} {k : Kd} {o : O} {v : V} (q : σ[i]? = some (some (.obj k o))) (hv : σv[i]? = some (some v)) : ∃ a u, v = .ref a ∧ H a = some u ∧ (false, a) ∉ μ := by
  obtain ⟨v', h1, h2⟩ := h.sl i _ q
  rw [hv] at h1; cases h1
  exact h2.obj_at
/-- what may be laid into a slot -/
def PutOk (K : Kw) (μ : Mu) (σ : Sl) (σv : L2.St) (H : Hp) (r : R) (v : V) : Prop := AD K μ H r v ∧ ∀ (j : Nat) (k : Kd) (o : O), σ[j]? = some (some (.obj k o)) → σv[j]? = some (some v) → k = .frz ∧ ∃ o', r = .obj .frz o'
theorem PutOk.val {w : W} {v : V} (d : Den K μ H w v) (rs : RepS K μ σ σv H) (n : ∀ a, v = .ref a → (∀ (j : Nat) (k : Kd) (o : O), σ[j]? = some (some (.obj k o)) → σv[j]? ≠ some (some v))) : PutOk K μ σ σv H (.val w) v :=
  ⟨d, fun j k o q hv => by
    obtain ⟨a, u, e, _⟩ := rs.obj q hv
    exact absurd hv (n a e j k o q)⟩
theorem get_set {α : Type} {l : List α} {i j : Nat} {a b : α} (h : (l.set i a)[j]? = some b) : (i = j ∧ b = a ∧ i < l.length) ∨ (i ≠ j ∧ l[j]? = some b) := by
  by_cases e : i = j
  · subst e
    by_cases hl : i < l.length
    · rw [List.getElem?_set_self hl] at h
      cases h
      exact .inl ⟨rfl, rfl, hl⟩
    · rw [List.getElem?_eq_none (by simpa using hl)] at h; cases h
  · rw [List.getElem?_set_ne e] at h
    exact .inr ⟨e, h⟩
/-- a value in a slot: objects are apart from it or it is an alias of frozen ones -/
theorem RepS.put (rs : RepS K μ σ σv H) {i : Nat} {r : R} {v : V} (d : AD K μ H r v) (n : ∀ k o', r = .obj k o' → ∀ (j : Nat) (k' : Kd) (o : O), j ≠ i → σ[j]? = some (some (.obj k' o)) → σv[j]? = some (some v) → k = .frz ∧ k' = .frz) : RepS K μ (σ.set i (some r)) (σv.set i (some v)) H := by
  refine ⟨by rw [List.length_set, List.length_set]; exact rs.len, fun j y h => ?_, fun j l o k o' a h1 h2 h3 h4 => ?_⟩
  · rcases get_set h with ⟨e, e2, hl⟩ | ⟨e, h⟩
    · subst e
      cases e2
      exact ⟨v, by rw [List.getElem?_set_self (rs.len ▸ hl)], d⟩
    · obtain ⟨u, q1, q2⟩ := rs.sl j y h
      exact ⟨u, by rw [List.getElem?_set_ne e]; exact q1, q2⟩
  · rcases get_set h1 with ⟨e, e2, hl⟩ | ⟨e, q1⟩
    · rcases get_set h2 with ⟨e', e2', _⟩ | ⟨e', q2⟩
      · exact e ▸ e'
      · subst e
        rw [List.getElem?_set_self (rs.len ▸ hl)] at h3
        rw [List.getElem?_set_ne e'] at h4
        cases h3
        have e3 := Option.some.inj e2
        subst e3
        have := n _ _ rfl l _ _ (fun z => e' z.symm) q2 h4
        cases this.1
    · rcases get_set h2 with ⟨e', e2', hl⟩ | ⟨e', q2⟩
      · subst e'
        rw [List.getElem?_set_self (rs.len ▸ hl)] at h4
        rw [List.getElem?_set_ne e] at h3
        cases h4
        have e3 := Option.some.inj e2'
        subst e3
        have := n _ _ rfl j _ _ (fun z => e z.symm) q1 h3
        cases this.2
      · rw [List.getElem?_set_ne e] at h3
        rw [List.getElem?_set_ne e'] at h4
        exact rs.sep j l o k o' a q1 q2 h3 h4
/-- a slot's own one, frozen; or a value known of it -/
theorem RepS.relabel (rs : RepS K μ σ σv H) {i : Nat} {r : R} (hr : ∀ v, σv[i]? = some (some v) → AD K μ H r v) (hx : ∃ v, σv[i]? = some (some v)) (n : ∀ o, r ≠ .obj .own o) (hk : ∀ k o', r = .obj k o' → ∃ k2 o2, σ[i]? = some (some (.obj k2 o2))) (hz : ∀ k o' j o, r = .obj k o' → j ≠ i → σ[j]? = some (some (.obj .own o)) → σv[j]? ≠ σv[i]?) : RepS K μ (σ.set i (some r)) σv H := by
  refine ⟨by rw [List.length_set]; exact rs.len, fun j y h => ?_, fun j l o k o' a h1 h2 h3 h4 => ?_⟩
  · rcases get_set h with ⟨e, e2, hl⟩ | ⟨e, h⟩
    · subst e
      cases e2
      obtain ⟨v, hv⟩ := hx
      exact ⟨v, hv, hr v hv⟩
    · exact rs.sl j y h
  · rcases get_set h1 with ⟨e, e2, hl⟩ | ⟨e, q1⟩
    · have e3 := Option.some.inj e2
      exact absurd e3.symm (n o)
    · rcases get_set h2 with ⟨e', e2', hl⟩ | ⟨e', q2⟩
      · subst e'
        have e3 := Option.some.inj e2'
        exact absurd (h3.trans h4.symm) (hz _ _ j _ e3.symm (fun z => e z.symm) q1)
      · exact rs.sep j l o k o' a q1 q2 h3 h4
theorem RepS.freeze (rs : RepS K μ σ σv H) {i : Nat} {o : O} (h : σ[i]? = some (some (.obj .own o))) : RepS K μ (σ.set i (some (.obj .frz o))) σv H := by
  obtain ⟨v, h1, h2⟩ := rs.sl i _ h
  refine rs.relabel (fun v' hv => ?_) ⟨v, h1⟩ (fun _ z => nomatch z) (fun _ _ _ => ⟨_, _, h⟩) fun k o' j o2 _ hj hq z => ?_
  · rw [h1] at hv; cases hv
    exact h2.sd
  · obtain ⟨a, u, e, _⟩ := h2.obj_at
    subst e
    exact hj (rs.sep j i _ _ _ a hq h (z.trans h1) h1)
/-! ### ends -/
theorem Ext.c (e : Ext K μ H μ' H') : ExtC K A μ H μ' H' := ⟨e.pre, fun a h n => .inl (e.new a h n), fun a o h n _ => e.keep a o h n, e.tup, e.grow, e.frz⟩
theorem ExtC.gro' (e : ExtC K A μ H μ' H') : Gro K μ H μ' H' := ⟨e.pre, e.tup⟩
theorem ExtC.trans (a : ExtC K A μ H μ1 H1) (b : ExtC K A1 μ1 H1 μ2 H2) (hA : ∀ x, A1 x → H x = none ∨ A x) : ExtC K A μ H μ2 H2 where
  pre := fun i x h => b.pre i x (a.pre i x h)
  new := fun x h n => by
    by_cases q : (false, x) ∈ μ1
    · exact a.new x q n
    · rcases b.new x h q with z | z
      · exact .inl (a.grow x z)
      · exact hA x z
  keep := fun x o h n hx => by
    refine b.keep x o (a.keep x o h n hx) (fun q => ?_) (fun q => ?_)
    · rcases a.new x q n with z | z
      · rw [h] at z; cases z
      · exact hx z
    · rcases hA x q with z | z
      · rw [h] at z; cases z
      · exact hx z
  tup := fun x xs h => b.tup x xs (a.tup x xs h)
  grow := fun x h => a.grow x (b.grow x h)
  frz := fun x o u h => b.frz x o u (a.frz x o u h)
theorem RetD.back {r : R} {v : V} (e : ExtC K A μ H μ1 H1) (hA : ∀ x, A1 x → H x = none ∨ A x) (h : RetD K A1 H1 μ2 H2 r v) : RetD K A H μ2 H2 r v := by
  cases r with
  | val x => exact h
  | exv _ _ => exact h.elim
  | obj k o =>
    cases k with
    | own =>
      obtain ⟨a, u, e1, h1, h2, h3, h4⟩ := h
      exact ⟨a, u, e1, h1, h2, h3, h4.elim (fun z => .inl (e.grow a z)) (hA a)⟩
    | _ => exact h.elim
end
section
variable (T : Tb) (X : Cx) (w : Wd)
/-- the slots' own ones are of the statement's own, or new -/
def OwnIn (A : Addr → Prop) (H : Hp) (σ : Sl) (σv : L2.St) : Prop := ∀ a, OwnS σ σv a → H a = none ∨ A a
def AftS (A : Addr → Prop) (o : SO) (μ : Mu) (H : Hp) (D : Ends) : Prop := match o with
  | .nx σ G => ∀ μ' H' σv', ExtC (Kx X) A μ H μ' H' → RepG T (Kx X) μ' G H' → RepS (Kx X) μ' σ σv' H' → OwnIn A H σ σv' → D.nx σv' H'
  | .bk σ G => ∀ μ' H' σv', ExtC (Kx X) A μ H μ' H' → RepG T (Kx X) μ' G H' → RepS (Kx X) μ' σ σv' H' → OwnIn A H σ σv' → D.bk σv' H'
  | .ct σ G => ∀ μ' H' σv', ExtC (Kx X) A μ H μ' H' → RepG T (Kx X) μ' G H' → RepS (Kx X) μ' σ σv' H' → OwnIn A H σ σv' → D.ct σv' H'
  | .ret r G => ∀ μ' H' v, ExtC (Kx X) A μ H μ' H' → RepG T (Kx X) μ' G H' → RetD (Kx X) A H μ' H' r v → D.rt v H'
  | _ => False
def trS (s : S) : TS := fun D σv H => ∃ μ σ G, RepG T (Kx X) μ G H ∧ RepS (Kx X) μ σ σv H ∧ AftS T X (OwnS σ σv) (exec w s σ G) μ H D
def trB (b : List S) : TS := fun D σv H => ∃ μ σ G, RepG T (Kx X) μ G H ∧ RepS (Kx X) μ σ σv H ∧ AftS T X (OwnS σ σv) (execs w b σ G) μ H D
end
section
variable {T : Tb} {X : Cx} {w : Wd} {μ μ1 : Mu} {H H1 : Hp} {A A1 : Addr → Prop} {D : Ends}
theorem OwnIn.back {σ : Sl} {σv : L2.St} (e : ExtC (Kx X) A μ H μ1 H1) (hA : ∀ x, A1 x → H x = none ∨ A x) (h : OwnIn A1 H1 σ σv) : OwnIn A H σ σv := fun a q => (h a q).elim (fun z => .inl (e.grow a z)) (hA a)
theorem AftS.ext {o : SO} (e : ExtC (Kx X) A μ H μ1 H1) (hA : ∀ x, A1 x → H x = none ∨ A x) (h : AftS T X A o μ H D) : AftS T X A1 o μ1 H1 D := by
  cases o with
  | nx σ G => exact fun μ' H' σv' x g r q => h μ' H' σv' (e.trans x hA) g r (q.back e hA)
  | bk σ G => exact fun μ' H' σv' x g r q => h μ' H' σv' (e.trans x hA) g r (q.back e hA)
  | ct σ G => exact fun μ' H' σv' x g r q => h μ' H' σv' (e.trans x hA) g r (q.back e hA)
  | ret r G => exact fun μ' H' v x g d => h μ' H' v (e.trans x hA) g (d.back e hA)
  | exc _ _ _ _ => exact h.elim
  | bad => exact h.elim
/-- behind an expression -/
theorem AftS.exp {o : SO} (e : Ext (Kx X) μ H μ1 H1) (h : AftS T X A o μ H D) : AftS T X A o μ1 H1 D := h.ext e.c fun _ z => .inr z
theorem AftS.so {α : Type} {o : EO α} {σ : Sl} {f : α → Gp → SO} (h : AftS T X A (o.so σ f) μ H D) : ∃ a G, o = .ok a G ∧ AftS T X A (f a G) μ H D := by
  cases o with
  | ok a G => exact ⟨a, G, rfl, h⟩
  | exc _ _ _ => exact h.elim
  | bad => exact h.elim
theorem tB_nil : PSs X [] (trB T X w []) := by
  refine ⟨fun pins s σv H D I h => ?_⟩
  obtain ⟨μ, σ, G, g, rs, h⟩ := h
  exact pss_nil.run pins s σv H D I (h μ H σv Ext.refl.c g rs fun a q => .inr q)
theorem tB_cons {st : Stmt} {l : List Stmt} {s : S} {b : List S} (h1 : PS X st (trS T X w s)) (h2 : PSs X l (trB T X w b)) : PSs X (st :: l) (trB T X w (s :: b)) := by
  refine ⟨fun pins s σv H D I h => ?_⟩
  obtain ⟨μ, σ, G, g, rs, h⟩ := h
  refine (pss_cons h1 h2).run pins s σv H D I ⟨μ, σ, G, g, rs, ?_⟩
  rw [execs] at h
  revert h
  generalize exec w _ σ G = o
  intro h
  cases o with
  | nx σ1 G1 =>
    intro μ' H' σv' x g' r q
    exact ⟨μ', σ1, G1, g', r, AftS.ext x q h⟩
  | bk σ1 G1 => exact h
  | ct σ1 G1 => exact h
  | ret r G1 => exact h
  | exc _ _ _ _ => exact h.elim
  | bad => exact h.elim
end
end Mi
/-! statements, one by one -/
namespace Mi
open PySem PySem.Spec PyProof.Rows L2
section
variable (T : Tb) (X : Cx) (w : Wd)
/-- of a value that a slot takes -/
structure Put (K : Kw) (H0 : Hp) (μ : Mu) (σ : Sl) (σv : L2.St) (H : Hp) (r : R) (v : V) : Prop where
  d : AD K μ H r v
  n : ∀ k o', r = .obj k o' → ∀ (j : Nat) (k' : Kd) (o : O), σ[j]? = some (some (.obj k' o)) → σv[j]? = some (some v) → k = .frz ∧ k' = .frz
  f : ∀ o a, r = .obj .own o → v = .ref a → H0 a = none
def trEA (e : E) : TE := fun σv H Q => ∃ μ σ G r σ1 G1, RepG T (Kx X) μ G H ∧ RepS (Kx X) μ σ σv H ∧ evA w e σ G = .ok (r, σ1) G1 ∧
  ∀ μ' H' v, Ext (Kx X) μ H μ' H' → RepG T (Kx X) μ' G1 H' → RepS (Kx X) μ' σ1 σv H' → (∀ a, OwnS σ1 σv a → OwnS σ σv a) → Put (Kx X) H μ' σ1 σv H' r v → Q v H'
def trEM (e : E) : TE := fun σv H Q => ∃ μ σ G x σ1 G1, RepG T (Kx X) μ G H ∧ RepS (Kx X) μ σ σv H ∧ evM w e σ G = .ok (x, σ1) G1 ∧
  ∀ μ' H' v, ExtC (Kx X) (OwnS σ σv) μ H μ' H' → RepG T (Kx X) μ' G1 H' → RepS (Kx X) μ' σ1 σv H' → (∀ a, OwnS σ1 σv a → OwnS σ σv a) → Den (Kx X) μ' H' x v → Q v H'
end
section
variable {T : Tb} {X : Cx} {w : Wd} {a b c : Expr} {e ea eb ec : E} {pos p2 apos : Pos}
/-- an expression, run -/
theorem run_E {e : E} {μ : Mu} {σ : Sl} {σv : L2.St} {G G1 : Gp} {H : Hp} {r : R} (g : RepG T (Kx X) μ G H) (rs : RepE (Kx X) μ σ σv H) (he : ev w e σ G = .ok r G1) {Q : VK} (q : ∀ μ' H' v, Ext (Kx X) μ H μ' H' → RepG T (Kx X) μ' G1 H' → RD (Kx X) (Bs σ σv) H μ' H' r v → Q v H') : trE T X w e σv H Q :=
  ⟨μ, σ, G, g, rs, by rw [he]; exact q⟩
theorem RepS.at_ {K : Kw} {μ : Mu} {σ : Sl} {σv : L2.St} {H H0 : Hp} (rs : RepS K μ σ σv H) {j : Nat} {k : Kd} {o : O} {b : Addr} (q1 : σ[j]? = some (some (.obj k o))) (q2 : σv[j]? = some (some (.ref b))) : ∃ u, H b = some u := by
  obtain ⟨b', u, e3, e4, _⟩ := rs.obj q1 q2
  cases e3; exact ⟨u, e4⟩
theorem RepS.kd {K : Kw} {μ : Mu} {σ : Sl} {σv : L2.St} {H : Hp} (rs : RepS K μ σ σv H) {j : Nat} {k : Kd} {o : O} (q1 : σ[j]? = some (some (.obj k o))) : k = .own ∨ k = .frz := by
  obtain ⟨v, h1, h2⟩ := rs.sl j _ q1
  cases k with
  | own => exact .inl rfl
  | frz => exact .inr rfl
  | brw => exact h2.elim
  | top => exact h2.elim
/-- what is taken of a value -/
theorem tak_A {μ μ' : Mu} {σ σ1 : Sl} {σv : L2.St} {H H' : Hp} {G G1 : Gp} {r r1 : R} {v : V} (rs : RepS (Kx X) μ σ σv H) (x : Ext (Kx X) μ H μ' H') (d : RD (Kx X) (Bs σ σv) H μ' H' r v) (h : takA r σ G = .ok (r1, σ1) G1) :
    G1 = G ∧ RepS (Kx X) μ' σ1 σv H' ∧ (∀ a, OwnS σ1 σv a → OwnS σ σv a) ∧ Put (Kx X) H μ' σ1 σv H' r1 v := by
  unfold takA at h
  split at h
  · rename_i i o
    cases h
    obtain ⟨a, e, u, q1, q2, q3, o2, q4, q5⟩ := d
    subst e
    obtain ⟨v', h1, h2⟩ := rs.sl i _ q4
    rw [q5] at h1; cases h1
    have h3 := h2.ext x
    obtain ⟨a', u', e', q6, q7, q8⟩ := h3
    cases e'
    -- the slot's content is that
    have hoo : RepS (Kx X) μ' (σ.set i (some (.obj .frz o))) σv H' := (rs.ext x).relabel (fun v' hv => by
      rw [q5] at hv; cases hv
      exact ⟨a, rfl, u, q1, q2, q3⟩) ⟨_, q5⟩ (fun _ z => nomatch z) (fun _ _ _ => ⟨_, _, q4⟩) fun k o' j o3 _ hj hq z => hj (rs.sep j i _ _ _ a hq q4 (z.trans q5) q5)
    refine ⟨rfl, hoo, fun b ⟨j, o3, z1, z2⟩ => ?_, ⟨⟨a, rfl, u, q1, q2, q3⟩, fun k o' e j k2 o3 z1 z2 => ?_, fun _ _ z => nomatch z⟩⟩
    · rcases get_set z1 with ⟨_, z, _⟩ | ⟨_, z1⟩
      · cases z
      · exact ⟨j, o3, z1, z2⟩
    · cases e
      rcases get_set z1 with ⟨_, z, _⟩ | ⟨hj, z1⟩
      · cases z; exact ⟨rfl, rfl⟩
      · exact absurd (rs.sep i j _ _ _ a q4 z1 q5 z2) hj
  · rename_i o
    cases h
    obtain ⟨b, u, e3, q1, q2, q3, q4⟩ := d
    subst e3
    refine ⟨rfl, rs.ext x, fun a h => h, ⟨⟨b, u, rfl, q1, q2, q3⟩, fun k' o' _ j k2 o2 z1 z2 => ?_, fun _ _ _ z => by cases z; exact q4⟩⟩
    obtain ⟨u', e5⟩ := rs.at_ (H0 := H) z1 z2
    rw [q4] at e5; cases e5
  · rename_i o
    cases h
    obtain ⟨a, e, u, q1, q2, q3, i, o2, q4, q5⟩ := d
    subst e
    refine ⟨rfl, rs.ext x, fun a h => h, ⟨⟨a, rfl, u, q1, q2, q3⟩, fun k' o' e j k2 o3 z1 z2 => ?_, fun _ _ z => nomatch z⟩⟩
    cases e
    refine ⟨rfl, ?_⟩
    rcases rs.kd z1 with rfl | rfl
    · have := rs.sep j i _ _ _ a z1 q4 z2 q5
      subst this
      rw [q4] at z1; cases z1
    · rfl
  · cases h
    exact ⟨rfl, rs.ext x, fun a h => h, ⟨d, fun _ _ z => (nomatch z), fun _ _ z => (nomatch z)⟩⟩
  · cases h
theorem ta_of (ha : PE X a (trE T X w e)) : PE X a (trEA T X w e) := by
  refine ⟨fun pins s σv H Q I h => ?_⟩
  obtain ⟨μ, σ, G, r, σ1, G1, g, rs, e, k⟩ := h
  obtain ⟨r0, G2, e1, e2⟩ := EO.bind_ok e
  refine ha.run pins s σv H Q I (run_E g rs.e e1 fun μ' H' v x g' d => ?_)
  obtain ⟨rfl, r1, o1, p⟩ := tak_A rs x d e2
  exact k μ' H' v x g' r1 o1 p
/-- x = e -/
theorem ts_set {i : Nat} {x : Str} {py : Pos} (hN : X.N.Nodup) (hi : X.N[i]? = some x) (hl : X.env.scope.names.lookup x = some .local) (ha : PE X a (trE T X w e)) (hs : swapsWith a (some (.Name x py)) pos.line X.env = pure false) : PS X (.Assign [.Name x py] a pos) (trS T X w (.asg (.v i) e)) := by
  refine ⟨fun pins s σv H D I h => ?_⟩
  obtain ⟨μ, σ, G, g, rs, h⟩ := h
  rw [exec] at h
  obtain ⟨⟨r, σ1⟩, G1, e1, h1⟩ := AftS.so (σ := σ) (o := evA w e σ G) h
  refine (ps_set hN hi (.inl hl) (ta_of ha) hs (.inr hl)).run pins s σv H D I ⟨μ, σ, G, r, σ1, G1, g, rs, e1, fun μ' H' v x g' r1 o1 p => ?_⟩
  refine h1 μ' H' _ x.c g' (r1.put p.d fun k o' z j k' o _ q1 q2 => p.n k o' z j k' o q1 q2) fun b hb => ?_
  obtain ⟨j, o, q1, q2⟩ := hb
  rcases get_set q1 with ⟨z, z2, hl⟩ | ⟨z, q1⟩
  · subst z
    rw [List.getElem?_set_self (r1.len ▸ hl)] at q2
    cases q2
    exact .inl (p.f o b (Option.some.inj z2).symm rfl)
  · rw [List.getElem?_set_ne z] at q2
    exact .inr (o1 b ⟨j, o, q1, q2⟩)
/-- an expression alone -/
theorem ts_ex (ha : PE X a (trE T X w e)) (hs : swapsWith a none pos.line X.env = pure false) : PS X (.Expr a pos) (trS T X w (.ex e)) := by
  refine ⟨fun pins s σv H D I h => ?_⟩
  obtain ⟨μ, σ, G, g, rs, h⟩ := h
  rw [exec] at h
  obtain ⟨r, G1, e1, h1⟩ := AftS.so (σ := σ) h
  refine (ps_expr ha hs).run pins s σv H D I (run_E g rs.e e1 fun μ' H' v x g' d => ?_)
  exact h1 μ' H' σv x.c g' (rs.ext x) fun b hb => .inr hb
theorem ts_pass : PS X (.Pass pos) (trS T X w .pass) := by
  refine ⟨fun pins s σv H D I h => ?_⟩
  obtain ⟨μ, σ, G, g, rs, h⟩ := h
  exact ps_pass.run pins s σv H D I (h μ H σv Ext.refl.c g rs fun b hb => .inr hb)
theorem ts_doc {x : Str} {j : Nat} : PS X (.Expr (.Constant (.str x) j p2) pos) (trS T X w .pass) := by
  refine ⟨fun pins s σv H D I h => ?_⟩
  obtain ⟨μ, σ, G, g, rs, h⟩ := h
  exact ps_doc.run pins s σv H D I (h μ H σv Ext.refl.c g rs fun b hb => .inr hb)
theorem ts_never {st : Stmt} {s : S} (h : ∀ σ G, (∃ c x σ' G', exec w s σ G = .exc c x σ' G') ∨ exec w s σ G = .bad) : PS X st (trS T X w s) := by
  refine ⟨fun pins s σv H D I hh => ?_⟩
  obtain ⟨μ, σ, G, g, rs, hh⟩ := hh
  rcases h σ G with ⟨c, x, σ', G', e⟩ | e
  · rw [e] at hh; exact hh.elim
  · rw [e] at hh; exact hh.elim
theorem ts_raise {st : Stmt} {cl : Nat} {eo : Option E} : PS X st (trS T X w (.raise cl eo)) := by
  refine ts_never fun σ G => ?_
  rw [exec]
  unfold excR
  split
  · exact .inl ⟨_, _, _, _, rfl⟩
  · rename_i e
    cases he : ev w e σ G with
    | ok r G1 =>
      show (∃ c x σ' G', (match r with | .val x => SO.exc cl x σ G1 | _ => .bad) = .exc c x σ' G') ∨ (match r with | .val x => SO.exc cl x σ G1 | _ => .bad) = .bad
      split
      · exact .inl ⟨_, _, _, _, rfl⟩
      · exact .inr rfl
    | exc c x G1 => exact .inl ⟨_, _, _, _, rfl⟩
    | bad => exact .inr rfl
/-- if -/
theorem ts_if {la lb : List Stmt} {ba bb : List S} (hc : PT X c (trT T X w ec)) (ha : PSs X la (trB T X w ba)) (hb : PSs X lb (trB T X w bb)) : PS X (.If c la lb pos) (trS T X w (.if_ ec ba bb)) := by
  refine ⟨fun pins s σv H D I h => ?_⟩
  obtain ⟨μ, σ, G, g, rs, h⟩ := h
  rw [exec] at h
  obtain ⟨t, G1, e1, h1⟩ := AftS.so (σ := σ) (o := evC w (some ec) σ G) h
  have e3 := e1
  rw [evC] at e3
  obtain ⟨x, G3, e4, e5⟩ := EO.bind_ok e3
  obtain ⟨e6, rfl⟩ := opt_ok e5
  have e7 := condL_some e6
  subst e7
  refine (ps_if hc ha hb).run pins s σv H D I (trT_ok g rs.e e4 fun μ' H' x g' => ?_)
  have h2 := AftS.exp x h1
  cases t with
  | true => exact ⟨μ', σ, _, g', rs.ext x, h2⟩
  | false => exact ⟨μ', σ, _, g', rs.ext x, h2⟩
end
end Mi
/-! statements: values that go into objects, return, while -/
namespace Mi
open PySem PySem.Spec PyProof.Rows L2
section
variable {T : Tb} {K : Kw} {μ μ' μ1 : Mu} {G G1 : Gp} {H H' : Hp} {a : Addr} {o : O} {u : HO} {σ : Sl} {σv : L2.St}
theorem share_gro : Gro K μ H (μ ++ [(false, a)]) H := ⟨fun i y hi => by
  rw [List.getElem?_append_left (List.getElem?_eq_some_iff.mp hi).1]; exact hi, fun _ _ h => h⟩
theorem mem_share {b : Addr} (h : (false, b) ∈ μ ++ [(false, a)]) : (false, b) ∈ μ ∨ b = a := by
  rcases List.mem_append.mp h with h | h
  · exact .inl h
  · rw [List.mem_singleton] at h; cases h; exact .inr rfl
/-- an object is shared -/
theorem RepG.share (g : RepG T K μ G H) (hu : H a = some u) (od : OD K μ H o u) (hn : (false, a) ∉ μ) : RepG T K (μ ++ [(false, a)]) (G ++ [.obj o]) H := by
  have gr : Gro K μ H (μ ++ [(false, a)]) H := share_gro
  refine ⟨by simp [g.len], fun i j b hi hj => ?_, fun i go b hg hi => ?_⟩
  · have one : ∀ i, (μ ++ [(false, a)])[i]? = some (false, b) → μ[i]? = some (false, b) ∨ (i = μ.length ∧ b = a) := by
      intro i hi
      by_cases hl : i < μ.length
      · rw [List.getElem?_append_left hl] at hi; exact .inl hi
      · rw [List.getElem?_append_right (by omega)] at hi
        have : i - μ.length = 0 := by
          by_cases z : i - μ.length = 0
          · exact z
          · rw [List.getElem?_eq_none (by simp; omega)] at hi; cases hi
        rw [this] at hi
        simp at hi
        exact .inr ⟨by omega, hi.symm⟩
    rcases one i hi with h1 | ⟨h1, h1'⟩
    · rcases one j hj with h2 | ⟨h2, h2'⟩
      · exact g.nd i j b h1 h2
      · subst h2'; exact absurd (List.mem_of_getElem? h1) hn
    · rcases one j hj with h2 | ⟨h2, h2'⟩
      · subst h1'; exact absurd (List.mem_of_getElem? h2) hn
      · omega
  · by_cases hl : i < G.length
    · rw [List.getElem?_append_left hl] at hg
      rw [List.getElem?_append_left (by rw [g.len]; exact hl)] at hi
      have q := g.ob i go b hg hi
      obtain ⟨k, b⟩ := b
      cases k with
      | false =>
        cases go with
        | obj o => obtain ⟨u, h1, h2⟩ := q; exact ⟨u, h1, h2.mono gr⟩
        | frz o => obtain ⟨u, h1, h2⟩ := q; exact ⟨u, h1, h2.mono gr⟩
        | ins c fs => obtain ⟨dx, fv, h1, h2⟩ := q; exact ⟨dx, fv, h1, h2.mono gr⟩
      | true =>
        cases go with
        | obj o => exact q
        | frz o => exact KL.mono gr q
        | ins c fs => exact q
    · rw [List.getElem?_append_right (by omega)] at hg
      rw [List.getElem?_append_right (by rw [g.len]; omega), g.len] at hi
      have : i - G.length = 0 := by
        by_cases z : i - G.length = 0
        · exact z
        · rw [List.getElem?_eq_none (by simp; omega)] at hg; cases hg
      rw [this] at hg hi
      simp at hg hi
      subst hg hi
      exact ⟨u, hu, od.mono gr⟩
theorem RepG.share_ref (g : RepG T K μ G H) : Den K (μ ++ [(false, a)]) H (.ref G.length) (.ref a) := .ref (k := false) (by rw [← g.len]; simp)
theorem AD.share {r : R} {v : V} (d : AD K μ H r v) (n : ∀ k o, r = .obj k o → v ≠ .ref a) : AD K (μ ++ [(false, a)]) H r v := by
  cases r with
  | val x => exact Den.mono share_gro d
  | exv _ _ => exact d
  | obj k o =>
    cases k with
    | own =>
      obtain ⟨b, u, e, h1, h2, h3⟩ := d
      refine ⟨b, u, e, h1, h2.mono share_gro, fun z => ?_⟩
      rcases mem_share z with z | z
      · exact h3 z
      · exact n _ _ rfl (by rw [e, z])
    | frz =>
      obtain ⟨b, e, u, h1, h2, h3⟩ := d
      refine ⟨b, e, u, h1, h2.mono share_gro, fun z => ?_⟩
      rcases mem_share z with z | z
      · exact h3 z
      · exact n _ _ rfl (by rw [e, z])
    | _ => exact d
theorem RepS.share (rs : RepS K μ σ σv H) (n : ∀ (j : Nat) (k : Kd) (o : O), σ[j]? = some (some (.obj k o)) → σv[j]? ≠ some (some (.ref a))) : RepS K (μ ++ [(false, a)]) σ σv H := ⟨rs.len, fun i r q =>
  let ⟨v, h1, h2⟩ := rs.sl i r q
  ⟨v, h1, h2.share fun k o e z => n i k o (e ▸ q) (z ▸ h1)⟩, rs.sep⟩
theorem ExtC.share {A : Addr → Prop} (hA : A a) : ExtC K A μ H (μ ++ [(false, a)]) H := ⟨(share_gro (K := K) (H := H)).pre, fun b h n => (mem_share h).elim (fun z => absurd z n) fun z => .inr (z ▸ hA), fun _ _ h _ _ => h, fun _ _ h => h, fun _ h => h, fun _ _ _ h => h⟩
end
section
variable {T : Tb} {X : Cx} {w : Wd} {a b c : Expr} {e ea eb ec : E} {pos p2 apos : Pos}
/-- a value goes into an object -/
theorem tak_M {μ μ' : Mu} {σ σ1 : Sl} {σv : L2.St} {H H' : Hp} {G G1 : Gp} {r : R} {x : W} {v : V} (rs : RepS (Kx X) μ σ σv H) (xt : Ext (Kx X) μ H μ' H') (g : RepG T (Kx X) μ' G H') (d : RD (Kx X) (Bs σ σv) H μ' H' r v) (h : takM r σ G = .ok (x, σ1) G1) :
    ∃ μ2, ExtC (Kx X) (OwnS σ σv) μ H μ2 H' ∧ RepG T (Kx X) μ2 G1 H' ∧ RepS (Kx X) μ2 σ1 σv H' ∧ (∀ a, OwnS σ1 σv a → OwnS σ σv a) ∧ Den (Kx X) μ2 H' x v := by
  unfold takM at h
  split at h
  · rename_i i o
    cases h
    obtain ⟨a, e, u, q1, q2, q3, o2, q4, q5⟩ := d
    subst e
    obtain ⟨v', h1, h2⟩ := rs.sl i _ q4
    rw [q5] at h1; cases h1
    obtain ⟨a', u', e', q6, q7, q8⟩ := h2.ext xt
    cases e'
    have hu : H' a = some u := by
      cases o with
      | lst l => exact q1
      | dct l =>
        rcases q1 with q1 | ⟨od, q1⟩
        · exact q1
        · rw [q6] at q1; cases q1
          cases q7
    have nn : ∀ (j : Nat) (k : Kd) (o : O), (σ.set i (some (R.val (.ref G.length))))[j]? = some (some (.obj k o)) → σv[j]? ≠ some (some (.ref a)) := fun j k o z1 z2 => by
      rcases get_set z1 with ⟨_, z, _⟩ | ⟨hj, z1⟩
      · cases z
      · exact hj (rs.sep i j _ _ _ a q4 z1 q5 z2)
    have rr : RepS (Kx X) (μ' ++ [(false, a)]) (σ.set i (some (R.val (.ref G.length)))) σv H' := by
      refine ⟨by rw [List.length_set]; exact rs.len, fun j r q => ?_, fun j l o3 k o4 b z1 z2 z3 z4 => ?_⟩
      · rcases get_set q with ⟨z, z2, _⟩ | ⟨hj, q'⟩
        · subst z
          cases z2
          exact ⟨_, q5, g.share_ref⟩
        · obtain ⟨v2, p1, p2⟩ := (rs.ext xt).sl j r q'
          exact ⟨v2, p1, p2.share fun k o e z => nn j k o (e ▸ q) (z ▸ p1)⟩
      · rcases get_set z1 with ⟨_, z, _⟩ | ⟨_, z1'⟩
        · cases z
        · rcases get_set z2 with ⟨_, z, _⟩ | ⟨_, z2'⟩
          · cases z
          · exact rs.sep j l _ _ _ b z1' z2' z3 z4
    refine ⟨μ' ++ [(false, a)], ExtC.trans (A1 := OwnS σ σv) xt.c (ExtC.share ⟨i, o2, q4, q5⟩) fun _ z => .inr z, g.share hu q2 q3, rr, fun b ⟨j, o3, z1, z2⟩ => ?_, g.share_ref⟩
    rcases get_set z1 with ⟨_, z, _⟩ | ⟨_, z1⟩
    · cases z
    · exact ⟨j, o3, z1, z2⟩
  · rename_i o
    cases h
    obtain ⟨b, u, e3, q1, q2, q3, q4⟩ := d
    subst e3
    refine ⟨μ' ++ [(false, b)], ExtC.trans (A1 := fun z => z = b) xt.c (ExtC.share rfl) (fun z hz => .inl (hz ▸ q4)), g.share q1 q2 q3, (rs.ext xt).share fun j k o z1 z2 => ?_, fun _ h => h, g.share_ref⟩
    obtain ⟨u', e5⟩ := rs.at_ (H0 := H) z1 z2
    rw [q4] at e5; cases e5
  · cases h
    exact ⟨μ', xt.c, g, rs.ext xt, fun _ h => h, d⟩
  · cases h
theorem tm_of (ha : PE X a (trE T X w e)) : PE X a (trEM T X w e) := by
  refine ⟨fun pins s σv H Q I h => ?_⟩
  obtain ⟨μ, σ, G, x, σ1, G1, g, rs, e, k⟩ := h
  obtain ⟨r0, G2, e1, e2⟩ := EO.bind_ok e
  refine ha.run pins s σv H Q I (run_E g rs.e e1 fun μ' H' v xt g' d => ?_)
  obtain ⟨μ2, x2, g2, r2, o2, d2⟩ := tak_M rs xt g' d e2
  exact k μ2 H' v x2 g2 r2 o2 d2
/-- x = e, where what is stored is shared -/
theorem ts_setB {i : Nat} {x : Str} {py : Pos} (hN : X.N.Nodup) (hi : X.N[i]? = some x) (hl : X.env.scope.names.lookup x = some .local) (ha : PE X a (trE T X w e)) (hs : swapsWith a (some (.Name x py)) pos.line X.env = pure false) : PS X (.Assign [.Name x py] a pos) (trS T X w (.asg (.vb i) e)) := by
  refine ⟨fun pins s σv H D I h => ?_⟩
  obtain ⟨μ, σ, G, g, rs, h⟩ := h
  rw [exec] at h
  obtain ⟨⟨y, σ1⟩, G1, e1, h1⟩ := AftS.so (σ := σ) (o := evM w e σ G) h
  refine (ps_set hN hi (.inl hl) (tm_of ha) hs (.inr hl)).run pins s σv H D I ⟨μ, σ, G, y, σ1, G1, g, rs, e1, fun μ' H' v x g' r1 o1 d => ?_⟩
  have h1 : AftS T X (OwnS σ σv) (.nx (σ1.set i (some (.val y))) G1) μ H D := h1
  refine h1 μ' H' _ x g' (r1.put (r := .val y) d fun k o' z => nomatch z) fun b hb => ?_
  obtain ⟨j, o, q1, q2⟩ := hb
  rcases get_set q1 with ⟨z, z2, hl⟩ | ⟨z, q1⟩
  · cases z2
  · rw [List.getElem?_set_ne z] at q2
    exact .inr (o1 b ⟨j, o, q1, q2⟩)
/-- return e -/
theorem ts_ret (ha : PE X a (trE T X w e)) : PS X (.Return (some a) pos) (trS T X w (.ret e)) := by
  refine ⟨fun pins s σv H D I h => ?_⟩
  obtain ⟨μ, σ, G, g, rs, h⟩ := h
  rw [exec] at h
  obtain ⟨r, G1, e1, h1⟩ := AftS.so (σ := σ) (o := ev w e σ G) h
  refine (ps_ret ha).run pins s σv H D I (run_E g rs.e e1 fun μ' H' v x g' d => ?_)
  split at h1
  · rename_i i o
    obtain ⟨a, e, u, q1, q2, q3, o2, q4, q5⟩ := d
    subst e
    obtain ⟨v', p1, p2⟩ := rs.sl i _ q4
    rw [q5] at p1; cases p1
    obtain ⟨a', u', e', q6, q7, q8⟩ := p2.ext x
    cases e'
    have hu : H' a = some u := by
      cases o with
      | lst l => exact q1
      | dct l =>
        rcases q1 with q1 | ⟨od, q1⟩
        · exact q1
        · rw [q6] at q1; cases q1
          cases q7
    exact h1 μ' H' _ x.c g' ⟨a, u, rfl, hu, q2, q3, .inr ⟨i, o2, q4, q5⟩⟩
  · obtain ⟨b, u, e3, q1, q2, q3, q4⟩ := d
    exact h1 μ' H' _ x.c g' ⟨b, u, e3, q1, q2, q3, .inl q4⟩
  · exact h1 μ' H' _ x.c g' d
  · exact h1.elim
theorem ts_retN : PS X (.Return none pos) (trS T X w (.ret (.c .non))) := by
  refine ⟨fun pins s σv H D I h => ?_⟩
  obtain ⟨μ, σ, G, g, rs, h⟩ := h
  exact ps_retN.run pins s σv H D I (h μ H .non Ext.refl.c g .non)
/-- while -/
theorem ts_while {lb : List Stmt} {bb : List S} (hx : PassesOwn (model X.prog X.w) X.A X.env X.xe) (hc : PT X c (trT T X w ec)) (hb : PSs X lb (trB T X w bb)) : PS X (.While c lb [] pos) (trS T X w (.while_ ec bb)) := by
  refine ⟨fun pins s σv H D I h => ?_⟩
  obtain ⟨μ, σ, G, g, rs, h⟩ := h
  rw [exec] at h
  refine (ps_while hx hc hb).run pins s σv H D I ⟨fun m σv H => ∃ μ σ G, RepG T (Kx X) μ G H ∧ RepS (Kx X) μ σ σv H ∧ AftS T X (OwnS σ σv) (whileL (evC w (some ec)) (execs w bb) m σ G) μ H D, ⟨turns, μ, σ, G, g, rs, h⟩, ?_⟩
  rintro m σv H ⟨μ, σ, G, g, rs, h⟩
  cases m with
  | zero => exact h.elim
  | succ m =>
    rw [whileL] at h
    obtain ⟨t, G1, e1, h1⟩ := AftS.so (σ := σ) (o := evC w (some ec) σ G) h
    have e3 := e1
    rw [evC] at e3
    obtain ⟨x, G3, e4, e5⟩ := EO.bind_ok e3
    obtain ⟨e6, rfl⟩ := opt_ok e5
    have e7 := condL_some e6
    subst e7
    refine trT_ok g rs.e e4 fun μ' H' x g' => ?_
    have h2 := AftS.exp x h1
    cases t with
    | false => exact h2 μ' H' σv Ext.refl.c g' (rs.ext x) fun b hb => .inr hb
    | true =>
      simp only [if_true] at h2 ⊢
      refine ⟨fun σ' H' => ∃ m', m' < m + 1 ∧ ∃ μ σ G, RepG T (Kx X) μ G H' ∧ RepS (Kx X) μ σ σ' H' ∧ AftS T X (OwnS σ σ') (whileL (evC w (some ec)) (execs w bb) m' σ G) μ H' D, fun σ' H' h => h, μ', σ, _, g', rs.ext x, ?_⟩
      revert h2
      generalize execs w bb σ _ = o
      intro h2
      cases o with
      | nx σ2 G2 => exact fun μ2 H2 σv2 x2 g2 r2 o2 => ⟨m, Nat.lt_succ_self m, μ2, σ2, G2, g2, r2, AftS.ext x2 o2 h2⟩
      | ct σ2 G2 => exact fun μ2 H2 σv2 x2 g2 r2 o2 => ⟨m, Nat.lt_succ_self m, μ2, σ2, G2, g2, r2, AftS.ext x2 o2 h2⟩
      | bk σ2 G2 => exact h2
      | ret r G2 => exact h2
      | exc _ _ _ _ => exact h2.elim
      | bad => exact h2.elim
end
end Mi
/-! statements: for -/
namespace Mi
open PySem PySem.Spec PyProof.Rows L2
section
variable {T : Tb} {K : Kw} {μ μ1 : Mu} {G : Gp} {H H1 : Hp} {σ : Sl} {σv : L2.St}
theorem frz1_rep (rs : RepS K μ σ σv H) (i : Nat) : RepS K μ (frz1 σ i) σv H ∧ ∀ (j : Nat) (o : O), (frz1 σ i)[j]? = some (some (.obj .own o)) → σ[j]? = some (some (.obj .own o)) ∧ j ≠ i := by
  unfold frz1
  split
  · rename_i o h
    refine ⟨rs.freeze h, fun j o2 q => ?_⟩
    rcases get_set q with ⟨_, z, _⟩ | ⟨hj, q⟩
    · cases z
    · exact ⟨q, fun z => hj z.symm⟩
  · rename_i h
    exact ⟨rs, fun j o2 q => ⟨q, fun z => h o2 (z ▸ q)⟩⟩
theorem frzS_rep : ∀ (xs : List R) {σ : Sl}, RepS K μ σ σv H → RepS K μ (frzS xs σ) σv H ∧ ∀ (j : Nat) (o : O), (frzS xs σ)[j]? = some (some (.obj .own o)) → σ[j]? = some (some (.obj .own o)) ∧ ∀ o2, R.obj (.brw j) o2 ∉ xs
  | [], σ, rs => ⟨rs, fun j o q => ⟨q, fun _ z => nomatch z⟩⟩
  | r :: xs, σ, rs => by
    have other : (∀ i o, r ≠ .obj (.brw i) o) → frzS (r :: xs) σ = frzS xs σ := fun n => by
      cases r with
      | val _ => rfl
      | exv _ _ => rfl
      | obj k o =>
        cases k with
        | brw i => exact absurd rfl (n i o)
        | _ => rfl
    by_cases hb : ∃ i o, r = .obj (.brw i) o
    · obtain ⟨i, o, rfl⟩ := hb
      obtain ⟨r1, q1⟩ := frz1_rep rs i
      obtain ⟨r2, q2⟩ := frzS_rep xs r1
      refine ⟨r2, fun j o2 q => ?_⟩
      obtain ⟨z1, z2⟩ := q2 j o2 q
      obtain ⟨z3, z4⟩ := q1 j o2 z1
      refine ⟨z3, fun o3 z => ?_⟩
      rcases List.mem_cons.mp z with z | z
      · cases z; exact z4 rfl
      · exact z2 o3 z
    · have n : ∀ i o, r ≠ .obj (.brw i) o := fun i o e => hb ⟨i, o, e⟩
      rw [other n]
      obtain ⟨r2, q2⟩ := frzS_rep xs rs
      refine ⟨r2, fun j o2 q => ⟨(q2 j o2 q).1, fun o3 z => ?_⟩⟩
      rcases List.mem_cons.mp z with z | z
      · exact n _ _ z.symm
      · exact (q2 j o2 q).2 o3 z
/-- what is walked is none of what a slot owns then -/
theorem walked_apart {xs : List R} (rs : RepS K μ σ σv H) {a : Addr} (h : ∃ r ∈ xs, ∃ k o, r = R.obj k o ∧ (Bs σ σv k a ∨ H a = none)) : ¬ OwnS (frzS xs σ) σv a := by
  rintro ⟨j, o, q1, q2⟩
  obtain ⟨z1, z2⟩ := (frzS_rep xs rs).2 j o q1
  obtain ⟨r, hr, k, o2, rfl, hb | hn⟩ := h
  · have other : (∃ (i : Nat) (o : O), σ[i]? = some (some (R.obj .frz o)) ∧ σv[i]? = some (some (V.ref a))) → False := fun ⟨i, o3, b1, b2⟩ => by
      have := rs.sep j i _ _ _ a z1 b1 q2 b2
      subst this
      rw [z1] at b1; cases b1
    cases k with
    | brw i =>
      obtain ⟨o3, b1, b2⟩ := hb
      have := rs.sep j i _ _ _ a z1 b1 q2 b2
      subst this
      exact z2 _ hr
    | own => exact other hb
    | frz => exact other hb
    | top => exact other hb
  · obtain ⟨u, e⟩ := rs.at_ (H0 := H) z1 q2
    rw [hn] at e; cases e
theorem ExtC.fr {A P : Addr → Prop} (e : ExtC K A μ1 H1 μ H) (h : ∀ a, P a → (false, a) ∉ μ1 ∧ (∃ o, H1 a = some o) ∧ ¬ A a) : Fr K P μ1 H1 μ H :=
  ⟨e.pre, e.tup, fun a o p q => e.keep a o q (h a p).1 (h a p).2.2, fun a p z => by
    obtain ⟨n, ⟨o, q⟩, na⟩ := h a p
    rcases e.new a z n with w | w
    · rw [q] at w; cases w
    · exact na w, e.frz⟩
end
section
variable {T : Tb} {X : Cx} {w : Wd} {a b c : Expr} {e ea eb ec : E} {pos p2 apos : Pos}
/-- a target takes an item -/
def TgS (K : Kw) (tg : List Nat) (g : TG) : Prop := ∀ (x : W) (v : V) (μ : Mu) (σ σ2 : Sl) (σv : L2.St) (H : Hp) (Q : L2.St → Hp → Prop), Den K μ H x v → RepS K μ σ σv H → bindT tg x σ = some σ2 →
  (∀ σv2, RepS K μ σ2 σv2 H → (∀ a, OwnS σ2 σv2 a → OwnS σ σv a) → Q σv2 H) → g v σv H Q
theorem put_val {K : Kw} {μ : Mu} {σ : Sl} {σv : L2.St} {H : Hp} {x : W} {v : V} (rs : RepS K μ σ σv H) (d : Den K μ H x v) (i : Nat) : RepS K μ (σ.set i (some (.val x))) (σv.set i (some v)) H ∧ ∀ a, OwnS (σ.set i (some (.val x))) (σv.set i (some v)) a → OwnS σ σv a := by
  refine ⟨rs.put (r := .val x) d fun _ _ z => (nomatch z), fun a ⟨j, o, q1, q2⟩ => ?_⟩
  rcases get_set q1 with ⟨_, z, _⟩ | ⟨hj, q1⟩
  · cases z
  · rw [List.getElem?_set_ne hj] at q2
    exact ⟨j, o, q1, q2⟩
theorem ts_one {K : Kw} {i : Nat} : TgS K [i] (gName i) := by
  intro x v μ σ σ2 σv H Q d r e q
  have e : some (σ.set i (some (R.val x))) = some σ2 := e
  cases e
  obtain ⟨r1, o1⟩ := put_val r d i
  exact q _ r1 o1
theorem ts_names {K : Kw} {H : Hp} {Q : L2.St → Hp → Prop} {μ : Mu} {σ0 : Sl} {σv0 : L2.St} : ∀ (tg : List Nat) (xs : List W) (vs : List V) (σ : Sl) (σv : L2.St), xs.length = tg.length → Dens K μ H xs vs → RepS K μ σ σv H → (∀ a, OwnS σ σv a → OwnS σ0 σv0 a) →
    (∀ σv2, RepS K μ ((tg.zip xs).foldl (fun (σ : Sl) (p : Nat × W) => σ.set p.1 (some (.val p.2))) σ) σv2 H → (∀ a, OwnS ((tg.zip xs).foldl (fun (σ : Sl) (p : Nat × W) => σ.set p.1 (some (.val p.2))) σ) σv2 a → OwnS σ0 σv0 a) → Q σv2 H) → gNames tg vs σv H Q
  | [], [], vs, σ, σv, _, d, r, ew, q => by
    cases d
    exact ⟨rfl, q σv r ew⟩
  | [], _ :: _, _, _, _, hl, _, _, _, _ => by simp at hl
  | _ :: _, [], _, _, _, hl, _, _, _, _ => by simp at hl
  | i :: tg, x :: xs, vs, σ, σv, hl, d, r, ew, q => by
    cases d with
    | cons d ds =>
      refine ⟨_, _, rfl, ?_⟩
      obtain ⟨r1, o1⟩ := put_val r d i
      exact ts_names tg xs _ (σ.set i (some (.val x))) _ (by simpa using hl) ds r1 (fun a h => ew a (o1 a h)) q
theorem ts_tup {tg : List Nat} (hl : tg.length ≠ 1) : TgS (Kx X) tg (gTup X.K tg.length (gNames tg)) := by
  intro x v μ σ σ2 σv H Q d r e q
  unfold bindT at e
  split at e
  · simp at hl
  · split at e
    · rename_i xs
      split at e
      · rename_i hx
        cases e
        obtain ⟨a, vs, e1, s1, ds⟩ := d.tupI
        refine ⟨a, vs, e1, s1, by rw [← ds.length]; exact hx, ?_⟩
        exact ts_names tg xs vs _ _ hx ds r (fun _ h => h) q
      · cases e
    · cases e
theorem tgG_s {tg : List Nat} : TgS (Kx X) tg (tgG X.K tg) := by
  unfold tgG
  split
  · exact ts_one
  · rename_i q
    refine ts_tup fun z => ?_
    match tg, z with
    | [i], _ => exact q i rfl
/-- a walk's turns -/
theorem for_go {tg : List Nat} {bb : List S} {chk : Gp → Bool} {its : List W} {J : It} {σ0 : Sl} {σv : L2.St} {μ1 : Mu} {G1 : Gp} {H1 : Hp} {P : Addr → Prop} {D : Ends} (hb : True) (S : Src T (Kx X) P μ1 H1 chk its J) (g1 : RepG T (Kx X) μ1 G1 H1) (rz : RepS (Kx X) μ1 σ0 σv H1) (hP' : ∀ a, P a → (false, a) ∉ μ1 ∧ (∃ o, H1 a = some o) ∧ ¬ OwnS σ0 σv a)
    (h2 : AftS T X (OwnS σ0 σv) (forL (fun x σ G => match bindT tg x σ with
          | some σ => execs w bb σ G
          | none => .bad) chk its σ0 G1) μ1 H1 D) :
    ∃ W : Nat → Nat → L2.St → Hp → Prop, (∃ m, W 0 m σv H1) ∧ ∀ i m σv H, W i m σv H → (J.stop i H ∧ D.nx σv H) ∨ (J.go i H ∧ ∃ Nx : L2.St → Hp → Prop, (∀ σv' H', Nx σv' H' → ∃ m', m' < m ∧ W (i + 1) m' σv' H') ∧
      ∀ v H', J.yld i H v H' → tgG X.K tg v σv H' fun σ2 H2 => trB T X w bb ⟨Nx, D.rt, D.nx, Nx⟩ σ2 H2) := by
  refine ⟨fun i m σv' H' => m = its.length - i ∧ i ≤ its.length ∧ ∃ μ2 σ2 G2, RepG T (Kx X) μ2 G2 H' ∧ RepS (Kx X) μ2 σ2 σv' H' ∧ ExtC (Kx X) (OwnS σ0 σv) μ1 H1 μ2 H' ∧ OwnIn (OwnS σ0 σv) H1 σ2 σv' ∧
          AftS T X (OwnS σ0 σv) (forL (fun x σ G => match bindT tg x σ with
          | some σ => execs w bb σ G
          | none => .bad) chk (its.drop i) σ2 G2) μ1 H1 D, ⟨_, rfl, Nat.zero_le _, μ1, _, G1, g1, rz, Ext.refl.c, fun a h => .inr h, by simpa using h2⟩, ?_⟩
  rintro i m σv' H' ⟨rfl, hi, μ2, σ2, G2, g2, r2, x2, o2, h3⟩
  cases hx' : its[i]? with
  | none =>
    have hl : i = its.length := by
      have := List.getElem?_eq_none_iff.mp hx'; omega
    subst hl
    rw [List.drop_length, forL] at h3
    split at h3
    · rename_i hc
      exact .inl ⟨S.stop μ2 G2 H' (x2.fr hP') g2 hc, h3 μ2 H' σv' x2 g2 r2 o2⟩
    · exact h3.elim
  | some y =>
    have hl : i < its.length := (List.getElem?_eq_some_iff.mp hx').1
    have hdrop : its.drop i = y :: its.drop (i + 1) := by
      rw [List.drop_eq_getElem_cons hl, (List.getElem?_eq_some_iff.mp hx').2]
    rw [hdrop, forL] at h3
    split at h3
    · rename_i hc
      obtain ⟨go, yld⟩ := S.go μ2 G2 H' i y (x2.fr hP') g2 hc hx'
      refine .inr ⟨go, fun σ' H'' => ∃ m', m' < its.length - i ∧ (m' = its.length - (i + 1) ∧ i + 1 ≤ its.length ∧ ∃ μ2 σ2 G2, RepG T (Kx X) μ2 G2 H'' ∧ RepS (Kx X) μ2 σ2 σ' H'' ∧ ExtC (Kx X) (OwnS σ0 σv) μ1 H1 μ2 H'' ∧ OwnIn (OwnS σ0 σv) H1 σ2 σ' ∧
          AftS T X (OwnS σ0 σv) (forL (fun x σ G => match bindT tg x σ with
          | some σ => execs w bb σ G
          | none => .bad) chk (its.drop (i + 1)) σ2 G2) μ1 H1 D), fun _ _ h => h, fun v H2 hy => ?_⟩
      obtain ⟨x3, g3, dy⟩ := yld v H2 hy
      cases hbt : bindT tg y σ2 with
      | none => rw [hbt] at h3; exact h3.elim
      | some σ3 =>
        rw [hbt] at h3
        dsimp only at h3
        refine tgG_s y v μ2 σ2 σ3 σv' H2 _ dy (r2.ext x3) hbt fun σv3 r3 o3 => ⟨μ2, σ3, G2, g3, r3, ?_⟩
        have hA : ∀ a, OwnS σ3 σv3 a → H1 a = none ∨ OwnS σ0 σv a := fun a q => o2 a (o3 a q)
        have x23 : ExtC (Kx X) (OwnS σ0 σv) μ1 H1 μ2 H2 := x2.trans (A1 := fun _ => False) x3.c fun _ z => z.elim
        revert h3
        generalize execs w bb σ3 G2 = o
        intro h3
        cases o with
        | nx σ4 G4 => exact fun μ4 H4 σv4 x4 g4 r4 o4 => ⟨_, by omega, rfl, hl, μ4, σ4, G4, g4, r4, x23.trans x4 hA, o4.back x23 hA, h3⟩
        | ct σ4 G4 => exact fun μ4 H4 σv4 x4 g4 r4 o4 => ⟨_, by omega, rfl, hl, μ4, σ4, G4, g4, r4, x23.trans x4 hA, o4.back x23 hA, h3⟩
        | bk σ4 G4 => exact fun μ4 H4 σv4 x4 g4 r4 o4 => h3 μ4 H4 σv4 (x23.trans x4 hA) g4 r4 (o4.back x23 hA)
        | ret r G4 => exact fun μ4 H4 v4 x4 g4 d4 => h3 μ4 H4 v4 (x23.trans x4 hA) g4 (d4.back x23 hA)
        | exc _ _ _ _ => exact h3.elim
        | bad => exact h3.elim
    · exact h3.elim
/-! ### a dict, locked -/
theorem ExtC.unlock {A : Addr → Prop} {K : Kw} {μ μ' : Mu} {H H' : Hp} {a : Addr} {od : Obj} {u : HO} (hu : H a = some u) (hm : (false, a) ∈ μ) (nt : ∀ xs, u ≠ .tup xs) (nf : ∀ o v, u ≠ .frz o v) (e : ExtC K A μ (upd H a (.frz od u)) μ' H') : ExtC K A μ H μ' (upd H' a u) := by
  have ne : ∀ b, b ≠ a → upd H a (.frz od u) b = H b := fun b h => upd_ne h
  refine ⟨e.pre, fun b h n => ?_, fun b o h n na => ?_, fun b xs q => ?_, fun b q => ?_, fun b o v q => ?_⟩
  · have := e.new b h n
    by_cases z : b = a
    · subst z; exact absurd hm n
    · rwa [ne b z] at this
  · have z : b ≠ a := fun z => n (z ▸ hm)
    rw [upd_ne z]
    exact e.keep b o (by rw [ne b z]; exact h) n na
  · rcases q with q | q
    · by_cases z : b = a
      · subst z
        rcases q with q | ⟨o, q⟩
        · rw [hu] at q; cases q; exact absurd rfl (nt xs)
        · rw [hu] at q; cases q; exact absurd rfl (nf o _)
      · have q' : SqT K.K (upd H a (.frz od u)) b xs := .inl (by
          unfold Rd
          rw [ne b z]
          exact q)
        rcases e.tup b xs q' with q' | q'
        · refine .inl ?_
          unfold Rd at q' ⊢
          rw [upd_ne z]
          exact q'
        · exact .inr q'
    · exact .inr q
  · by_cases z : b = a
    · subst z; rw [upd_same] at q; cases q
    · rw [upd_ne z] at q
      have := e.grow b q
      rwa [ne b z] at this
  · by_cases z : b = a
    · subst z; rw [hu] at q; cases q; exact absurd rfl (nf o v)
    · rw [upd_ne z]
      exact e.frz b o v (by rw [ne b z]; exact q)
theorem Rx.unlock {a b : Addr} {u v : HO} {o : O} {H : Hp} (z : b ≠ a) (h : Rx o H b v) : Rx o (upd H a u) b v := by
  cases o with
  | lst _ => show upd H a u b = _; rw [upd_ne z]; exact h
  | dct _ => show Rd _ _ _; unfold Rd; rw [upd_ne z]; exact h
theorem RepS.unlock {K : Kw} {μ : Mu} {H : Hp} {a : Addr} {od : Obj} {u : HO} {σ : Sl} {σv : L2.St} (r : RepS K μ σ σv H) (hm : (false, a) ∈ μ) (hf : H a = some (.frz od u)) (nt : ∀ xs, u ≠ .tup xs) : RepS K μ σ σv (upd H a u) := by
  have gr : Gro K μ H μ (upd H a u) := Gro.unlock hf nt
  refine ⟨r.len, fun i x h => ?_, r.sep⟩
  obtain ⟨v, h1, h2⟩ := r.sl i x h
  refine ⟨v, h1, ?_⟩
  cases x with
  | val w => exact Den.mono gr h2
  | exv _ _ => exact h2
  | obj k o =>
    cases k with
    | own =>
      obtain ⟨b, w, e, q1, q2, q3⟩ := h2
      exact ⟨b, w, e, by rw [upd_ne (fun z : b = a => q3 (z ▸ hm))]; exact q1, q2.mono gr, q3⟩
    | frz =>
      obtain ⟨b, e, w, q1, q2, q3⟩ := h2
      exact ⟨b, e, w, q1.unlock (fun z : b = a => q3 (z ▸ hm)), q2.mono gr, q3⟩
    | brw _ => exact h2
    | top => exact h2
theorem OwnIn.unlock {A : Addr → Prop} {H : Hp} {a : Addr} {v : HO} {σ : Sl} {σv : L2.St} (h : OwnIn A (upd H a v) σ σv) : OwnIn A H σ σv := fun b q => (h b q).imp (fun z => by
  by_cases y : b = a
  · subst y; rw [upd_same] at z; cases z
  · rwa [upd_ne y] at z) id
theorem RetD.unlock {A : Addr → Prop} {K : Kw} {μ : Mu} {H H' : Hp} {a : Addr} {od : Obj} {u v0 : HO} {r : R} {v : V} (hm : (false, a) ∈ μ) (hf : H' a = some (.frz od u)) (nt : ∀ xs, u ≠ .tup xs) (d : RetD K A (upd H a v0) μ H' r v) : RetD K A H μ (upd H' a u) r v := by
  have gr : Gro K μ H' μ (upd H' a u) := Gro.unlock hf nt
  cases r with
  | val x => exact Den.mono gr d
  | exv _ _ => exact d
  | obj k o =>
    cases k with
    | own =>
      obtain ⟨b, w, e, h1, h2, h3, h4⟩ := d
      have z : b ≠ a := fun z => h3 (z ▸ hm)
      exact ⟨b, w, e, by rw [upd_ne z]; exact h1, h2.mono gr, h3, h4.imp (fun y => by rwa [upd_ne z] at y) id⟩
    | _ => exact d
/-- the ends, where the dict at a is locked -/
def lockD (a : Addr) (od : Obj) (u : HO) (D : Ends) : Ends := ⟨fun σ' H' => H' a = some (.frz od u) ∧ D.nx σ' (upd H' a u), fun v H' => H' a = some (.frz od u) ∧ D.rt v (upd H' a u), fun σ' H' => H' a = some (.frz od u) ∧ D.bk σ' (upd H' a u), fun σ' H' => H' a = some (.frz od u) ∧ D.ct σ' (upd H' a u)⟩
theorem AftS.lock {A : Addr → Prop} {x : SO} {μ : Mu} {H : Hp} {D : Ends} {p : Nat} {a : Addr} {od : Obj} {kvs : List (W × W)} {ks : List (Key × V)} {lk : Option (Nat × O)} (hl : lk = some (p, .dct kvs) ∨ lk = none) (hp : μ[p]? = some (false, a)) (hu : H a = some (.dK ks)) (dk : DenKV (Kx X) μ H kvs ks) (h : AftS T X A (unlockS lk x) μ H D) :
    AftS T X A x μ (upd H a (.frz od (.dK ks))) (lockD a od (.dK ks) D) := by
  have hm : (false, a) ∈ μ := List.mem_of_getElem? hp
  have rg : ∀ {μ' G' H'}, ExtC (Kx X) A μ (upd H a (.frz od (.dK ks))) μ' H' → RepG T (Kx X) μ' G' H' → RepG T (Kx X) μ' (unlockG lk G') (upd H' a (.dK ks)) := fun {μ' G' H'} x' g' => by
    have hf := x'.frz a od _ upd_same
    have g2 := g'.unlock hf dK_tup
    rcases hl with rfl | rfl
    · exact g2.relabel (x'.pre _ _ hp) ⟨_, upd_same, .dct (dk.mono (ExtC.unlock hu hm dK_tup dK_frz x').gro')⟩
    · exact g2
  have fin : ∀ {μ' H'}, ExtC (Kx X) A μ (upd H a (.frz od (.dK ks))) μ' H' → H' a = some (.frz od (.dK ks)) ∧ (false, a) ∈ μ' ∧ ExtC (Kx X) A μ H μ' (upd H' a (.dK ks)) := fun {μ' H'} x' => ⟨x'.frz a od _ upd_same, List.mem_of_getElem? (x'.pre _ _ hp), ExtC.unlock hu hm dK_tup dK_frz x'⟩
  have hno : ∀ {y : SO}, unlockS none y = y := fun {y} => rfl
  cases x with
  | nx σ G =>
    have h' : AftS T X A (.nx σ (unlockG lk G)) μ H D := by
      rcases hl with rfl | rfl <;> exact h
    intro μ' H' σv' x' g' r' o'
    obtain ⟨hf, hm', xu⟩ := fin x'
    exact ⟨hf, h' μ' _ σv' xu (rg x' g') (r'.unlock hm' hf dK_tup) o'.unlock⟩
  | ret r G =>
    have h' : AftS T X A (.ret r (unlockG lk G)) μ H D := by
      rcases hl with rfl | rfl <;> exact h
    intro μ' H' v x' g' d'
    obtain ⟨hf, hm', xu⟩ := fin x'
    exact ⟨hf, h' μ' _ v xu (rg x' g') (d'.unlock hm' hf dK_tup)⟩
  | bk σ G =>
    rcases hl with rfl | rfl
    · exact h.elim
    intro μ' H' σv' x' g' r' o'
    obtain ⟨hf, hm', xu⟩ := fin x'
    exact ⟨hf, h μ' _ σv' xu (rg x' g') (r'.unlock hm' hf dK_tup) o'.unlock⟩
  | ct σ G =>
    rcases hl with rfl | rfl
    · exact h.elim
    intro μ' H' σv' x' g' r' o'
    obtain ⟨hf, hm', xu⟩ := fin x'
    exact ⟨hf, h μ' _ σv' xu (rg x' g') (r'.unlock hm' hf dK_tup) o'.unlock⟩
  | exc _ _ _ _ => rcases hl with rfl | rfl <;> exact h.elim
  | bad => rcases hl with rfl | rfl <;> exact h.elim
/-- for -/
theorem ts_for {tg : List Nat} {ik : Ik} {src : List E} {at_ ai : Expr} {lb : List Stmt} {bb : List S} (hx : PassesOwn (model X.prog X.w) X.A X.env X.xe) (calm : X.calm = true) (hns : notSet ai = true) (hi : Walk T X w at_ ai ik src) (hg : PG X at_ (tgG X.K tg)) (hb : PSs X lb (trB T X w bb)) :
    PS X (.For at_ ai lb [] pos) (trS T X w (.for_ tg ik src bb)) := by
  refine ⟨fun pins s σv H D I h => ?_⟩
  obtain ⟨μ, σ, G, g, rs, h⟩ := h
  rw [exec] at h
  obtain ⟨xs, G1, e1, h1⟩ := AftS.so (σ := σ) (o := evs w src σ G) h
  by_cases hls : lockS src G1 ik xs = true
  case neg => rw [if_neg hls] at h1; exact h1.elim
  rw [if_pos hls] at h1
  unfold forR at h1
  split at h1
  · rename_i its hw
    by_cases hd : ik = .of → ¬ dctS G1 xs
    · rw [lock_none hd] at h1
      have h1 : AftS T X (OwnS σ σv) (forL (fun x σ G => match bindT tg x σ with
        | some σ => execs w bb σ G
        | none => .bad) (chkW (xs.map (kindR G1)) ik xs its) its (frzS xs σ) G1) μ H D := h1
      obtain ⟨wi, pi, hwi⟩ := hi.l μ σ σv G G1 H xs g rs.e e1 hd its hw
      refine (ps_for hx calm pi hg hb (folded_of hns)).run pins s σv H D I (hwi _ fun μ1 H1 J P x1 g1 hP S => ?_)
      obtain ⟨rz, oz⟩ := frzS_rep xs (rs.ext x1)
      have oz' : ∀ a, OwnS (frzS xs σ) σv a → OwnS σ σv a := fun a ⟨j, o, q1, q2⟩ => ⟨j, o, (oz j o q1).1, q2⟩
      have hP' : ∀ a, P a → (false, a) ∉ μ1 ∧ (∃ o, H1 a = some o) ∧ ¬ OwnS (frzS xs σ) σv a := fun a p => ⟨(hP a p).1, (hP a p).2.1, walked_apart rs (hP a p).2.2⟩
      have h2 := AftS.ext (A1 := OwnS (frzS xs σ) σv) x1.c (fun a q => .inr (oz' a q)) h1
      exact for_go trivial S g1 rz hP' h2
    · obtain ⟨hk, hd2⟩ := Classical.not_imp.mp hd
      have hd3 : dctS G1 xs := Classical.not_not.mp hd2
      clear hd hd2
      subst hk
      obtain ⟨e0, rfl, pe⟩ := hi.e rfl
      obtain ⟨rfl, p, a, kvs, ks, rfl, hp, dk, hw', he, hc⟩ := dict_at g rs.e e1 hls hd3
      rw [hw] at hw'
      cases hw'
      have hm : (false, a) ∈ μ := List.mem_of_getElem? hp
      rcases hc with ⟨hgp, hu, hel⟩ | ⟨hgp, hr⟩
      · have hlo : lockOf G1 .of [.val (.ref p)] = some (p, .dct kvs) := by
          show (match G1[p]? with | some (.obj (.dct kvs)) => some (p, O.dct kvs) | _ => none) = _
          rw [hgp]
        rw [hlo] at h1
        refine (ps_lock (ps_for hx calm (pi_keys pe) hg hb (folded_of hns))).run pins s σv H D I ⟨a, _, hu, trivial, fun od => ?_⟩
        obtain ⟨xl, gl⟩ := lock_in (od := od) g hp hu dk
        have h2 := AftS.lock (od := od) (.inl rfl) hp hu dk h1
        refine dict_wi (chk := chkW ([R.val (.ref p)].map (kindR G1)) .of [.val (.ref p)] (kvs.map (·.1))) gl (rs.ext xl).e hel upd_same hp (dk.mono xl.gro) _ fun μ1 H1 x1 g1 S => ?_
        exact for_go (D := lockD a od (.dK ks) D) trivial S g1 ((rs.ext xl).ext x1) (fun _ z => z.elim) (AftS.exp x1 h2)
      · have hlo : lockOf G1 .of [.val (.ref p)] = none := by
          show (match G1[p]? with | some (.obj (.dct kvs)) => some (p, O.dct kvs) | _ => none) = _
          rw [hgp]
        rw [hlo] at h1
        rcases hr with hu | ⟨od, hu⟩
        · refine (ps_lock (ps_for hx calm (pi_keys pe) hg hb (folded_of hns))).run pins s σv H D I ⟨a, _, hu, trivial, fun od => ?_⟩
          obtain ⟨xl, gl⟩ := lock_in (od := od) g hp hu dk
          have gs : G1.set p (.frz (.dct kvs)) = G1 := by
            obtain ⟨hl, e⟩ := List.getElem?_eq_some_iff.mp hgp
            rw [← e, List.set_getElem_self]
          rw [gs] at gl
          have h2 := AftS.lock (p := p) (od := od) (lk := none) (.inr rfl) hp hu dk h1
          refine dict_wi (chk := chkW ([R.val (.ref p)].map (kindR G1)) .of [.val (.ref p)] (kvs.map (·.1))) gl (rs.ext xl).e he upd_same hp (dk.mono xl.gro) _ fun μ1 H1 x1 g1 S => ?_
          exact for_go (D := lockD a od (.dK ks) D) trivial S g1 ((rs.ext xl).ext x1) (fun _ z => z.elim) (AftS.exp x1 h2)
        · refine (ps_for hx calm (pi_keys pe) hg hb (folded_of hns)).run pins s σv H D I ?_
          refine dict_wi (chk := chkW ([R.val (.ref p)].map (kindR G1)) .of [.val (.ref p)] (kvs.map (·.1))) g rs.e he hu hp dk _ fun μ1 H1 x1 g1 S => ?_
          exact for_go trivial S g1 (rs.ext x1) (fun _ z => z.elim) (AftS.exp x1 h1)
  · exact h1.elim
end
end Mi
/-! statements: lists that a slot holds are changed -/
namespace Mi
open PySem PySem.Spec PyProof.Rows L2
section
variable {T : Tb} {X : Cx} {w : Wd} {μ μ' : Mu} {G G1 : Gp} {H H' : Hp} {σ : Sl} {σv : L2.St} {a b c : Expr} {e ea eb ec : E} {pos p2 apos cpos : Pos}
theorem Gro.mine {p : Addr} {u : HO} (hu : ∀ xs, H p ≠ some (.tup xs)) (hf : ∀ o u', H p ≠ some (.frz o u')) : Gro (Kx X) μ H μ (upd H p u) := by
  refine ⟨fun _ _ h => h, fun b ys h => ?_⟩
  rcases h with h | h
  · refine .inl ?_
    rcases h with h | ⟨o, h⟩
    · exact .inl (by rw [upd_ne (fun z : b = p => hu ys (z ▸ h))]; exact h)
    · exact .inr ⟨o, by rw [upd_ne (fun z : b = p => hf o _ (z ▸ h))]; exact h⟩
  · exact .inr h
/-- what a slot owns has changed -/
theorem RepS.mut (rs : RepS (Kx X) μ σ σv H) {i : Nat} {o o' : O} {p : Addr} {u : HO} (q1 : σ[i]? = some (some (.obj .own o))) (q2 : σv[i]? = some (some (.ref p))) (hu : ∀ xs, H p ≠ some (.tup xs)) (hf : ∀ o u', H p ≠ some (.frz o u'))
    (od : OD (Kx X) μ (upd H p u) o' u) : RepS (Kx X) μ (σ.set i (some (.obj .own o'))) σv (upd H p u) := by
  have gr : Gro (Kx X) μ H μ (upd H p u) := Gro.mine hu hf
  obtain ⟨v0, h1, d0⟩ := rs.sl i _ q1
  rw [q2] at h1; cases h1
  obtain ⟨p', u0, e0, _, _, n0⟩ := d0
  cases e0
  refine ⟨by rw [List.length_set]; exact rs.len, fun j r h => ?_, fun j l o3 k o4 b z1 z2 z3 z4 => ?_⟩
  · rcases get_set h with ⟨z, z2, _⟩ | ⟨hj, h⟩
    · subst z
      cases z2
      exact ⟨_, q2, p, u, rfl, upd_same, od, n0⟩
    · obtain ⟨v, h2, d⟩ := rs.sl j r h
      refine ⟨v, h2, ?_⟩
      have ne : ∀ b, v = .ref b → (∃ k o, r = .obj k o) → b ≠ p := fun b e ⟨k, o5, er⟩ z => by
        subst e; subst z; subst er
        exact hj (rs.sep i j _ _ _ b q1 h q2 h2)
      cases r with
      | val x => exact Den.mono gr d
      | exv _ _ => exact d
      | obj k o5 =>
        cases k with
        | own =>
          obtain ⟨b, u2, e2, h3, h4, h5⟩ := d
          exact ⟨b, u2, e2, by rw [upd_ne (ne b e2 ⟨_, _, rfl⟩)]; exact h3, h4.mono gr, h5⟩
        | frz =>
          obtain ⟨b, e2, u2, h3, h4, h5⟩ := d
          refine ⟨b, e2, u2, ?_, h4.mono gr, h5⟩
          have hn := ne b e2 ⟨_, _, rfl⟩
          cases o5 with
          | lst _ => show (upd H p u) b = _; rw [upd_ne hn]; exact h3
          | dct _ =>
            rcases h3 with h3 | ⟨ob, h3⟩
            · exact .inl (by rw [upd_ne hn]; exact h3)
            · exact .inr ⟨ob, by rw [upd_ne hn]; exact h3⟩
        | _ => exact d
  · have old : ∀ (m : Nat) (k : Kd) (o : O), (σ.set i (some (R.obj .own o')))[m]? = some (some (.obj k o)) → ∃ o2, σ[m]? = some (some (.obj k o2)) := fun m k o h => by
      rcases get_set h with ⟨z, z2, _⟩ | ⟨_, h⟩
      · subst z; cases z2; exact ⟨_, q1⟩
      · exact ⟨_, h⟩
    obtain ⟨o5, w1⟩ := old j _ _ z1
    obtain ⟨o6, w2⟩ := old l _ _ z2
    exact rs.sep j l _ _ _ b w1 w2 z3 z4
theorem own_set {i : Nat} {o o' : O} (q1 : σ[i]? = some (some (.obj .own o))) : ∀ b, OwnS (σ.set i (some (.obj .own o'))) σv b → OwnS σ σv b := fun b ⟨j, o2, z1, z2⟩ => by
  rcases get_set z1 with ⟨z, _, _⟩ | ⟨_, z1⟩
  · subst z; exact ⟨i, o, q1, z2⟩
  · exact ⟨j, o2, z1, z2⟩
theorem ExtC.mine {A : Addr → Prop} {p : Addr} {u : HO} (hA : A p) (hu : ∀ xs, H p ≠ some (.tup xs)) (hf : ∀ o u', H p ≠ some (.frz o u')) : ExtC (Kx X) A μ H μ (upd H p u) := by
  refine ⟨fun _ _ h => h, fun a h n => absurd h n, fun a o h n na => by rw [upd_ne (fun z : a = p => na (z ▸ hA))]; exact h, (Gro.mine (X := X) (μ := μ) hu hf).tup, fun a h => ?_, fun a o u' h => by rw [upd_ne (fun z : a = p => hf o u' (z ▸ h))]; exact h⟩
  by_cases z : a = p
  · subst z; rw [upd_same] at h; cases h
  · rw [upd_ne z] at h; exact h
/-- a list that a slot holds -/
theorem slot_list {i : Nat} (g : RepG T (Kx X) μ G H) (rs : RepS (Kx X) μ σ σv H) (h : slotK σ G i = some .lst) : ∃ v, σv[i]? = some (some v) ∧ tyV X.K "list" v H := by
  unfold slotK at h
  split at h
  · rename_i r hr
    obtain ⟨v, h1, d⟩ := rs.sl i _ hr
    refine ⟨v, h1, ?_⟩
    cases r with
    | val x => exact RD.tyL (B := fun _ _ => True) (H0 := H) (x := .val x) g d h
    | exv _ _ => exact d.elim
    | obj k o =>
      have d2 : RD (Kx X) (fun _ _ => True) H μ H (.obj .frz o) v := by
        have d3 := d.sd
        cases k with
        | own => obtain ⟨b, e, u, q1, q2, q3⟩ := d3; exact ⟨b, e, u, q1, q2, q3, trivial⟩
        | frz => obtain ⟨b, e, u, q1, q2, q3⟩ := d3; exact ⟨b, e, u, q1, q2, q3, trivial⟩
        | _ => exact d3.elim
      exact RD.tyL g d2 h
  · cases h
def trArg (T : Tb) (X : Cx) (w : Wd) (m : Mb) (e : E) : TE := fun σv H Q => ∃ μ σ G ys σ1 G1, RepG T (Kx X) μ G H ∧ RepS (Kx X) μ σ σv H ∧ argsM w m [e] σ G = .ok (ys, σ1) G1 ∧
  ∀ μ' H' v, ExtC (Kx X) (OwnS σ σv) μ H μ' H' → RepG T (Kx X) μ' G1 H' → RepS (Kx X) μ' σ1 σv H' → (∀ a, OwnS σ1 σv a → OwnS σ σv a) → (∃ y, ys = [y] ∧ RD (Kx X) (Bs σ σv) H μ' H' y v) → Q v H'
theorem argsM_app {w : Wd} {e : E} {σ : Sl} {G : Gp} : argsM w .append [e] σ G = (evM w e σ G).bind fun p G => .ok ([.val p.1], p.2) G := rfl
theorem argsM_1 {w : Wd} {m : Mb} (hm : m ≠ .append) {e : E} {σ : Sl} {G : Gp} : argsM w m [e] σ G = (ev w e σ G).bind fun y G => .ok ([y], σ) G := by
  have h : argsM w m [e] σ G = (evs w [e] σ G).bind fun ys G => (boxR m ys G).bind fun ys G => .ok (ys, σ) G := by
    cases m <;> first | rfl | exact absurd rfl hm
  rw [h, evs]
  cases ev w e σ G with
  | ok y G1 =>
    show (((evs w [] σ G1).bind fun xs G => EO.ok (y :: xs) G).bind fun ys G => (boxR m ys G).bind fun ys G => EO.ok (ys, σ) G) = _
    rw [evs]
    show (boxR m [y] G1).bind _ = _
    have : boxR m [y] G1 = .ok [y] G1 := by
      cases m <;> first | rfl | exact absurd rfl hm
    rw [this]
    rfl
  | exc _ _ _ => rfl
  | bad => rfl
theorem targ {m : Mb} (ha : PE X a (trE T X w e)) : PE X a (trArg T X w m e) := by
  refine ⟨fun pins s σv H Q I h => ?_⟩
  obtain ⟨μ, σ, G, ys, σ1, G1, g, rs, e, k⟩ := h
  by_cases hm : m = .append
  · subst hm
    rw [argsM_app] at e
    obtain ⟨⟨x, σ2⟩, G2, e1, e2⟩ := EO.bind_ok e
    cases e2
    exact (tm_of ha).run pins s σv H Q I ⟨μ, σ, G, x, _, _, g, rs, e1, fun μ' H' v x1 g1 r1 o1 d1 => k μ' H' v x1 g1 r1 o1 ⟨_, rfl, d1⟩⟩
  · rw [argsM_1 hm] at e
    obtain ⟨y, G2, e1, e2⟩ := EO.bind_ok e
    cases e2
    exact ha.run pins s σv H Q I (run_E g rs.e e1 fun μ' H' v x g' d => k μ' H' v x.c g' (rs.ext x) (fun _ h => h) ⟨y, rfl, d⟩)
/-- x.m(e), x a list that a slot holds -/
theorem ts_mut1 {m : Mb} {i : Nat} {x : Str} {f : Gp → O → R → Option (O × W)} {name : Str} {id : String} (hf : ∀ G o ys, muR G o m ys = on1 (f G o) ys) (hk : ∀ G o y o' w, f G o y = some (o', w) → (∃ xs, o = .lst xs) ∧ ∃ xs, o' = .lst xs) (slot : Slot "list" name id)
    (hty : typeOf (.builtin id) = pure (.type "method_descriptor")) (sem : MtM X id (rU1 T X f)) (hN : X.N[i]? = some x) (hv : Vis X.env.scope x) (hd : (x == ("__debug__" : Str)) = false) (hcd : (x == ("__classdict__" : Str)) = false) (hst : notStar b = true) (hl : (apos.endLine == cpos.line) = true) (hb : PE X b (trE T X w eb)) :
    PS X (.Expr (.Call (.Attribute (.Name x p2) name apos) [b] [] cpos) pos) (trS T X w (.mut i m [eb])) := by
  refine ⟨fun pins s σv H D I h => ?_⟩
  obtain ⟨μ, σ, G, g, rs, h⟩ := h
  rw [exec] at h
  unfold mutR at h
  split at h
  · exact h.elim
  rename_i k hk0
  obtain ⟨⟨ys, σ1⟩, G1, e1, h1⟩ := AftS.so (σ := σ) h
  dsimp only at h1
  split at h1
  · rename_i hk1
    have two : (∃ o o' wr y, σ1[i]? = some (some (.obj .own o)) ∧ ys = [y] ∧ f G1 o y = some (o', wr) ∧ AftS T X (OwnS σ σv) (.nx (σ1.set i (some (.obj .own o'))) G1) μ H D) ∨
        (∃ q o o' wr y, σ1[i]? = some (some (.val (.ref q))) ∧ G1[q]? = some (.obj o) ∧ ys = [y] ∧ f G1 o y = some (o', wr) ∧ AftS T X (OwnS σ σv) (.nx σ1 (G1.set q (.obj o'))) μ H D) := by
      split at h1
      · rename_i o ho
        split at h1
        · rename_i o' wr hm
          rw [hf] at hm
          obtain ⟨y, rfl, e2⟩ := on1_some hm
          exact .inl ⟨o, o', wr, y, ho, rfl, e2, h1⟩
        · exact h1.elim
      · rename_i q hq
        split at h1
        · rename_i o ho
          split at h1
          · rename_i o' wr hm
            rw [hf] at hm
            obtain ⟨y, rfl, e2⟩ := on1_some hm
            exact .inr ⟨q, o, o', wr, y, hq, ho, rfl, e2, h1⟩
          · exact h1.elim
        · exact h1.elim
      · exact h1.elim
    have kl : k = .lst := by
      rcases two with ⟨o, o', wr, y, z1, _, z2, _⟩ | ⟨q, o, o', wr, y, z1, z0, _, z2, _⟩
      · obtain ⟨⟨xs, rfl⟩, _⟩ := hk _ _ _ _ _ z2
        unfold slotK at hk1
        rw [z1] at hk1
        cases hk1; rfl
      · obtain ⟨⟨xs, rfl⟩, _⟩ := hk _ _ _ _ _ z2
        unfold slotK at hk1
        rw [z1] at hk1
        simp only [kindR, Mi.content, z0] at hk1
        cases hk1; rfl
    subst kl
    obtain ⟨v0, hv0, ty0⟩ := slot_list g rs hk0
    refine (ps_expr (pe_bm PySem.F.plainAttrs_list slot hty sem (pe_var hN hv hd hcd) (pa_cons (targ (m := m) hb) pa_nil (star_cons hst)) (base_of rfl) (few_one hst) hl (star_cons hst)) rfl).run pins s σv H D I ⟨v0, hv0, ty0, ?_⟩
    refine ⟨μ, σ, G, ys, σ1, G1, g, rs, e1, fun μ2 H2 v x2 g2 r2 o2 hy => ?_⟩
    obtain ⟨y0, ey, dy⟩ := hy
    show rU1 T X f v0 [v] H2 (fun _ H1 => D.nx σv H1)
    rcases two with ⟨o, o', wr, y, z1, z3, z2, z4⟩ | ⟨q, o, o', wr, y, z1, z0, z3, z2, z4⟩
    · rw [z3] at ey; cases ey
      obtain ⟨⟨xs, rfl⟩, ⟨xs', rfl⟩⟩ := hk _ _ _ _ _ z2
      obtain ⟨v1, w1, p, u, rfl, hu, od, hn⟩ := r2.sl i _ z1
      rw [hv0] at w1; cases w1
      have nt : ∀ xs, H2 p ≠ some (.tup xs) := fun xs z => by rw [hu] at z; cases z; cases od
      have nf : ∀ o u', H2 p ≠ some (.frz o u') := fun o u' z => by rw [hu] at z; cases z; cases od
      refine ⟨Bs σ σv, H, μ2, G1, _, _, wr, _, v, p, u, rfl, hu, od, rfl, g2, dy, z2, fun u' v' hod dw => ?_⟩
      have gr : Gro (Kx X) μ2 H2 μ2 (upd H2 p u') := Gro.mine nt nf
      have hA : OwnS σ σv p := o2 p ⟨i, _, z1, hv0⟩
      refine z4 μ2 _ σv (x2.trans (ExtC.mine hA nt nf) fun _ z => .inr z) (g2.mine hn nt nf) (r2.mut z1 hv0 nt nf (hod _ gr)) fun b hb => .inr (o2 b (own_set z1 b hb))
    · rw [z3] at ey; cases ey
      obtain ⟨⟨xs, rfl⟩, ⟨xs', rfl⟩⟩ := hk _ _ _ _ _ z2
      obtain ⟨v1, w1, dp⟩ := r2.sl i _ z1
      rw [hv0] at w1; cases w1
      obtain ⟨kb, p, rfl, hi, qg⟩ := g2.at_ dp
      have qo := qg _ z0
      cases kb with
      | true => exact qo.elim
      | false =>
        obtain ⟨u, hu, od⟩ := qo
        have nt : ∀ xs, H2 p ≠ some (.tup xs) := fun xs z => by rw [hu] at z; cases z; cases od
        have nf : ∀ o u', H2 p ≠ some (.frz o u') := fun o u' z => by rw [hu] at z; cases z; cases od
        refine ⟨Bs σ σv, H, μ2, G1, _, _, wr, _, v, p, u, rfl, hu, od, rfl, g2, dy, z2, fun u' v' hod dw => ?_⟩
        have hm : (false, p) ∈ μ2 := List.mem_of_getElem? hi
        have xs3 : Ext (Kx X) μ2 H2 μ2 (upd H2 p u') := Ext.set hm nt nf
        exact z4 μ2 _ σv (x2.trans (A1 := fun _ => False) xs3.c fun _ z => z.elim) (g2.set hi nt nf ⟨u', upd_same, hod _ xs3.gro⟩) (r2.ext xs3) fun b hb => .inr (o2 b hb)
  · exact h1.elim
theorem extendO_lst {G : Gp} {o : O} {y : R} {o' : O} {w : W} (h : extendO G o y = some (o', w)) : (∃ xs, o = .lst xs) ∧ ∃ xs, o' = .lst xs := by
  unfold extendO at h
  split at h
  · split at h
    · split at h
      · cases h; exact ⟨⟨_, rfl⟩, ⟨_, rfl⟩⟩
      · cases h
    · cases h
  · cases h
end
end Mi
/-! statements: tuples returned, parts stored, two at once -/
namespace Mi
open PySem PySem.Spec PyProof.Rows L2
section
variable {T : Tb} {X : Cx} {w : Wd} {μ μ' : Mu} {G G1 : Gp} {H H' : Hp} {σ : Sl} {σv : L2.St} {a b c : Expr} {e ea eb ec : E} {pos p2 apos cpos : Pos} {es : List Expr} {les : List E}
theorem ExtC.gro {K : Kw} {A : Addr → Prop} (e : ExtC K A μ H μ' H') : Gro K μ H μ' H' := ⟨e.pre, e.tup⟩
def trEMs (T : Tb) (X : Cx) (w : Wd) (es : List E) : TA := fun σv H Q => ∃ μ σ G xs σ1 G1, RepG T (Kx X) μ G H ∧ RepS (Kx X) μ σ σv H ∧ evMs w es σ G = .ok (xs, σ1) G1 ∧
  ∀ μ' H' vs, ExtC (Kx X) (OwnS σ σv) μ H μ' H' → RepG T (Kx X) μ' G1 H' → RepS (Kx X) μ' σ1 σv H' → (∀ a, OwnS σ1 σv a → OwnS σ σv a) → Dens (Kx X) μ' H' xs vs → Q vs H'
theorem tms_nil : PA X [] (trEMs T X w []) := by
  refine ⟨fun p pins s σv H Q I h => ?_⟩
  obtain ⟨μ, σ, G, xs, σ1, G1, g, rs, e, k⟩ := h
  cases e
  exact pa_nil.run p pins s σv H Q I (k μ H [] Ext.refl.c g rs (fun _ h => h) .nil)
theorem tms_cons (hs : notStar a = true) (ha : PE X a (trE T X w e)) (hr : PA X es (trEMs T X w les)) : PA X (a :: es) (trEMs T X w (e :: les)) := by
  refine ⟨fun p pins s σv H Q I h => ?_⟩
  obtain ⟨μ, σ, G, xs, σ1, G1, g, rs, e1, k⟩ := h
  rw [evMs] at e1
  obtain ⟨⟨x, σ2⟩, G2, e2, e3⟩ := EO.bind_ok e1
  obtain ⟨⟨ys, σ3⟩, G3, e4, e5⟩ := EO.bind_ok e3
  have e4 := EO.calm_ok e4
  cases e5
  refine (pa_cons (tm_of ha) hr (star_cons hs)).run p pins s σv H Q I ⟨μ, σ, G, x, σ2, G2, g, rs, e2, fun μ1 H1 v x1 g1 r1 o1 d1 => ?_⟩
  exact ⟨μ1, σ2, G2, ys, _, _, g1, r1, e4, fun μ2 H2 vs x2 g2 r2 o2 d2 => k μ2 H2 (v :: vs) (x1.trans x2 fun z q => .inr (o1 z q)) g2 r2 (fun z q => o1 z (o2 z q)) (.cons (d1.mono x2.gro) d2)⟩
/-- return a tuple -/
theorem ts_retT {n : Nat} (hz : es.length ≤ 16777216) (hl : es.length = les.length) (h : PA X es (trEMs T X w les)) : PS X (.Return (some (.Tuple es n p2)) pos) (trS T X w (.retT les)) := by
  refine ⟨fun pins s σv H D I hh => ?_⟩
  obtain ⟨μ, σ, G, g, rs, hh⟩ := hh
  rw [exec] at hh
  obtain ⟨⟨xs, σ1⟩, G1, e1, h1⟩ := AftS.so (σ := σ) (o := evMs w les σ G) hh
  have len : ∀ (les : List E) (σ : Sl) (G : Gp) (xs : List W) (σ1 : Sl) (G1 : Gp), evMs w les σ G = .ok (xs, σ1) G1 → xs.length = les.length := by
    intro les
    induction les with
    | nil => intro σ G xs σ1 G1 h; cases h; rfl
    | cons e les ih =>
      intro σ G xs σ1 G1 h
      rw [evMs] at h
      obtain ⟨⟨x, σ2⟩, G2, e2, e3⟩ := EO.bind_ok h
      obtain ⟨⟨ys, σ3⟩, G3, e4, e5⟩ := EO.bind_ok e3
      have := ih _ _ _ _ _ (EO.calm_ok e4)
      cases e5
      simp [this]
  have hx := len _ _ _ _ _ _ e1
  refine (ps_ret (pe_tup h)).run pins s σv H D I ⟨μ, σ, G, xs, σ1, G1, g, rs, e1, fun μ1 H1 vs x1 g1 r1 o1 d1 => ⟨?_, fun p hp => ?_⟩⟩
  · rw [← d1.length, hx, ← hl, sizeLine_eq]; exact hz
  · exact h1 μ1 _ _ (x1.trans (A1 := fun _ => False) (Ext.laid hp).c fun _ z => z.elim) (g1.laid hp) (.tup (.inl (.inl upd_same)) (d1.mono (Ext.laid hp).gro))
/-- two at once -/
theorem noBrw_tak {rs : List R} (h : noBrw rs = true) : ∀ r ∈ rs, (∀ i o, r ≠ .obj (.brw i) o) ∧ ∀ o, r ≠ .obj .top o := by
  induction rs with
  | nil => intro r hr; cases hr
  | cons r0 rs ih =>
    intro r hr
    rcases List.mem_cons.mp hr with e | hr
    · subst e
      refine ⟨fun i o e => ?_, fun o e => ?_⟩ <;> (subst e; simp [noBrw] at h)
    · refine ih ?_ r hr
      cases r0 with
      | obj k o => cases k <;> first | exact h | simp [noBrw] at h
      | _ => exact h
theorem put_of {r : R} {v : V} (rs : RepS (Kx X) μ σ σv H) (x : Ext (Kx X) μ H μ' H') (d : RD (Kx X) (Bs σ σv) H μ' H' r v) (h : (∀ i o, r ≠ .obj (.brw i) o) ∧ ∀ o, r ≠ .obj .top o) : Put (Kx X) H μ' σ σv H' r v := by
  have e : ∀ G : Gp, takA r σ G = .ok (r, σ) G := fun G => by
    cases r with
    | val _ => rfl
    | exv _ _ => exact d.elim
    | obj k o =>
      cases k with
      | brw i => exact absurd rfl (h.1 i o)
      | top => exact absurd rfl (h.2 o)
      | own => rfl
      | frz => rfl
  exact (tak_A rs x d (e [])).2.2.2
theorem put_own {r : R} {v : V} {i : Nat} (p : Put (Kx X) H μ' σ σv H' r v) (r1 : RepS (Kx X) μ' σ σv H') : ∀ b, OwnS (σ.set i (some r)) (σv.set i (some v)) b → H b = none ∨ OwnS σ σv b := fun b ⟨j, o, q1, q2⟩ => by
  rcases get_set q1 with ⟨z, z2, hl⟩ | ⟨z, q1⟩
  · subst z
    rw [List.getElem?_set_self (r1.len ▸ hl)] at q2
    cases q2
    exact .inl (p.f o b (Option.some.inj z2).symm rfl)
  · rw [List.getElem?_set_ne z] at q2
    exact .inr ⟨j, o, q1, q2⟩
theorem ts_par2 {i j : Nat} {x y : Str} {px py pt pt2 : Pos} {kt k2 : Nat} (calm : X.calm = true) (hN : X.N.Nodup) (hi : X.N[i]? = some x) (hj : X.N[j]? = some y) (hij : i ≠ j) (hx : X.env.scope.names.lookup x = some .local) (hy : X.env.scope.names.lookup y = some .local)
    (hp : PA X [a, b] (trA T X w [ea, eb])) (hs : swappedStores [.Tuple [.Name x px, .Name y py] kt pt] (.Tuple [a, b] k2 pt2) X.env = pure (some [x, y])) :
    PS X (.Assign [.Tuple [.Name x px, .Name y py] kt pt] (.Tuple [a, b] k2 pt2) pos) (trS T X w (.asgs [.v i, .v j] [ea, eb])) := by
  refine ⟨fun pins s σv H D I hh => ?_⟩
  obtain ⟨μ, σ, G, g, rs, hh⟩ := hh
  rw [exec] at hh
  obtain ⟨xs, G1, e1, h1⟩ := AftS.so (σ := σ) (o := evs w [ea, eb] σ G) hh
  obtain ⟨r1, r2, G2, rfl, _, _⟩ := evs_two e1
  split at h1
  · rename_i hb
    have h1 : AftS T X (OwnS σ σv) (.nx ((σ.set i (some r1)).set j (some r2)) G1) μ H D := h1
    have nb := noBrw_tak hb
    refine (ps_par calm hN hi hj hij hx hy hp hs).run pins s σv H D I ⟨μ, σ, G, g, rs.e, ?_⟩
    rw [e1]
    intro μ' H' vs xt g' d
    obtain ⟨v1, v2, rfl, d1, d2⟩ := pair_two d.1
    have sp := d.2.1
    refine ⟨v1, v2, rfl, ?_⟩
    have p1 := put_of rs xt d1 (nb r1 (by simp))
    have p2 := put_of rs xt d2 (nb r2 (by simp))
    have rr := rs.ext xt
    have ra := rr.put (i := i) p1.d fun k o' z j k' o _ q1 q2 => p1.n k o' z j k' o q1 q2
    have rb := ra.put (i := j) p2.d fun k o' z l k' o hl q1 q2 => by
      rcases get_set q1 with ⟨z1, z2, hlt⟩ | ⟨z1, q1⟩
      · subst z1
        rw [List.getElem?_set_self (rr.len ▸ hlt)] at q2
        cases q2
        have e3 := (Option.some.inj z2).symm
        subst e3
        subst z
        -- both at one address
        have mine : ∀ o3 (k3 : Kd) (o4 : O), RD (Kx X) (Bs σ σv) H μ' H' (.obj .own o3) v1 → (k3 = .own ∨ k3 = .frz) → RD (Kx X) (Bs σ σv) H μ' H' (.obj k3 o4) v1 → k3 = .own := fun o3 k3 o4 da hk db => by
          rcases hk with hk | hk
          · exact hk
          · subst hk
            obtain ⟨b, u, e4, _, _, _, h0⟩ := da
            obtain ⟨b', e5, u2, _, _, _, l, o5, w1, w2⟩ := db
            subst e4; cases e5
            obtain ⟨u3, e6⟩ := rs.at_ (H0 := H) w1 w2
            rw [h0] at e6; cases e6
        have kd : ∀ {k : Kd} {o : O}, AD (Kx X) μ' H' (.obj k o) v1 → k = .own ∨ k = .frz := fun {k o} d => by
          cases k with
          | own => exact .inl rfl
          | frz => exact .inr rfl
          | _ => exact d.elim
        rcases kd p2.d with rfl | rfl
        · rcases kd p1.d with rfl | rfl
          · exact absurd rfl (sp o 0 o' rfl rfl)
          · cases mine _ _ _ d2 (.inr rfl) d1
        · rcases kd p1.d with rfl | rfl
          · cases mine _ _ _ d1 (.inr rfl) d2
          · exact ⟨rfl, rfl⟩
      · rw [List.getElem?_set_ne z1] at q2
        exact p2.n k o' z l k' o q1 q2
    refine h1 μ' H' _ xt.c g' rb fun b ⟨l, o, q1, q2⟩ => ?_
    rcases get_set q1 with ⟨z, z2, hlt⟩ | ⟨z, q1⟩
    · subst z
      rw [List.getElem?_set_self (ra.len ▸ hlt)] at q2
      cases q2
      exact .inl (p2.f o b (Option.some.inj z2).symm rfl)
    · rw [List.getElem?_set_ne z] at q2
      exact put_own p1 rr b ⟨l, o, q1, q2⟩
  · exact h1.elim
end
end Mi
/-! statements: parts stored -/
namespace Mi
open PySem PySem.Spec PyProof.Rows L2
section
variable {T : Tb} {X : Cx} {w : Wd} {μ μ' : Mu} {G G1 : Gp} {H H' : Hp} {σ : Sl} {σv : L2.St} {a b c : Expr} {e ea eb ec : E} {pos p2 apos cpos : Pos} {es : List Expr} {les : List E}
/-- o[i] = v, by what Mini says -/
def rPut (X : Cx) : TSet := fun o i v H Q => ∃ a u o1 o2 μ iw x, o = .ref a ∧ H a = some u ∧ OD (Kx X) μ H o1 u ∧ Den (Kx X) μ H iw i ∧ Den (Kx X) μ H x v ∧ putO o1 iw x = some o2 ∧ ∀ u', (∀ H', Gro (Kx X) μ H μ H' → OD (Kx X) μ H' o2 u') → Q (upd H a u')
theorem putO_lst {xs : List W} {iw x : W} {o2 : O} (h : putO (.lst xs) iw x = some o2) : ∃ k j, iw = .int k ∧ ixOf k xs.length = some j ∧ o2 = .lst (xs.set j x) := by
  cases iw with
  | int k =>
    have h : ((ixOf k xs.length).map fun k => O.lst (xs.set k x)) = some o2 := h
    rw [Option.map_eq_some_iff] at h
    obtain ⟨j, h1, rfl⟩ := h
    exact ⟨k, j, rfl, h1, rfl⟩
  | _ => cases h
theorem putO_dct {kvs : List (W × W)} {iw x : W} {o2 : O} (h : putO (.dct kvs) iw x = some o2) : keyOk iw = true ∧ kvs.length < Mi.sizeL ∧ o2 = .dct (dput kvs iw x) := by
  have e : putO (.dct kvs) iw x = if keyOk iw ∧ kvs.length < Mi.sizeL then some (.dct (dput kvs iw x)) else none := by
    cases iw <;> rfl
  rw [e] at h
  split at h
  · rename_i hz
    exact ⟨hz.1, hz.2, (Option.some.inj h).symm⟩
  · cases h
theorem set_put (hu : X.A.units + 65 < cLine) : PSet X (rPut X) := by
  intro pins s σ H o i v ov iv u Q I r1 r2 r3 h
  obtain ⟨a, ho, o1, o2, μ, iw, x, rfl, ha, od, di, dx, hp, q⟩ := h
  cases od with
  | lst dv =>
    rename_i ws vs
    obtain ⟨k, j, rfl, h1, rfl⟩ := putO_lst hp
    exact set_list pins s σ H _ _ _ ov iv u Q I r1 r2 r3 ⟨a, vs, k, j, rfl, di.intI, ha, by rw [← dv.length]; exact h1, q _ fun H' gr => .lst ((dv.mono gr).set (dx.mono gr) j)⟩
  | dct dv =>
    rename_i ws vs
    obtain ⟨hz1, hz2, rfl⟩ := putO_dct hp
    obtain ⟨kk, k1, rfl⟩ := keyD_of hz1 di
    cases r1
    exact d_setItem (by omega) I (.inl ⟨vs, kk, ha, rfl, by rw [← dv.length, ← sizeL_eq]; exact hz2, rfl⟩) r2 r3 fun s' I' => ⟨_, I', q _ fun H' gr => .dct ((dv.mono gr).put k1 (dx.mono gr))⟩
theorem sub_assign {o i : Expr} {pos : Pos} {env : Env} (h : notSlice i = true) : ∀ (v : Value), assign (.Subscript o i pos) env v = (do
    let ov ← holding [v] (eval o env)
    let iv ← holding [v, ov] (eval i env)
    standAt pos
    holding [v, ov, iv] (setItem ov iv v)
    PySem.release [v, ov, iv] []) := by
  intro v
  cases i <;> first | rfl | (simp [notSlice] at h)
theorem sole_sub {o i v : Expr} {p : Pos} {l : Nat} {env : Env} : swapsWithSole [.Subscript o i p] v l env = pure false := by cases v <;> rfl
/-- a part is stored, of a name's -/
theorem ts_subV {j : Nat} {x : Str} {px : Pos} {ei : E} (hu : X.A.units + 65 < cLine) (hN : X.N[j]? = some x) (hv : Vis X.env.scope x) (hd : (x == ("__debug__" : Str)) = false) (hcd : (x == ("__classdict__" : Str)) = false) (hs : notSlice b = true) (ha : PE X a (trE T X w e)) (hb : PE X b (trE T X w ei)) :
    PS X (.Assign [.Subscript (.Name x px) b p2] a pos) (trS T X w (.asg (.sub (.v j) ei) e)) := by
  refine ⟨fun pins s σv H D I h => ?_⟩
  obtain ⟨μ, σ, G, g, rs, h⟩ := h
  rw [exec] at h
  obtain ⟨⟨y, σ1⟩, G1, e1, h1⟩ := AftS.so (σ := σ) (o := evM w e σ G) h
  refine (ps_asg (tm_of ha) (pg_sub (pe_var hN hv hd hcd) hb (set_put hu) (sub_assign hs)) sole_sub rfl rfl).run pins s σv H D I ⟨μ, σ, G, y, σ1, G1, g, rs, e1, fun μ1 H1 v x1 g1 r1 o1 d1 => ?_⟩
  have h1 : AftS T X (OwnS σ σv) (match σ1[j]? with
    | some (some (.obj .own o)) => (ev w ei σ1 G1).so σ1 fun i G => match i with
      | .val i => match putO o i y with
        | some o' => .nx (σ1.set j (some (.obj .own o'))) G
        | none => .bad
      | _ => .bad
    | some (some (.val (.ref p))) => (ev w ei σ1 G1).so σ1 fun i G => match i, G[p]? with
      | .val i, some (.obj o) => match putO o i y with
        | some o' => .nx σ1 (G.set p (.obj o'))
        | none => .bad
      | _, _ => .bad
    | _ => .bad) μ H D := h1
  split at h1
  · rename_i o hj
    obtain ⟨iv, G2, e2, h2⟩ := AftS.so (σ := σ1) (o := ev w ei σ1 G1) h1
    obtain ⟨vj, q1, p, u, rfl, hp, od, hn⟩ := r1.sl j _ hj
    refine ⟨_, q1, run_E g1 r1.e e2 fun μ2 H2 vi x2 g2 d2 => ?_⟩
    split at h2
    · rename_i iw
      split at h2
      · rename_i o' hpo
        have hp2 := x2.keep p u hp hn
        have od2 := od.mono x2.gro
        have hn2 := x2.nin hp hn
        have nt : ∀ xs, H2 p ≠ some (.tup xs) := fun xs z => by rw [hp2] at z; cases z; cases od2
        have nf : ∀ o u', H2 p ≠ some (.frz o u') := fun o u' z => by rw [hp2] at z; cases z; cases od2
        refine ⟨p, u, o, o', μ2, iw, y, rfl, hp2, od2, d2, d1.mono x2.gro, hpo, fun u' hod => ?_⟩
        have gr : Gro (Kx X) μ2 H2 μ2 (upd H2 p u') := Gro.mine nt nf
        have hA : OwnS σ σv p := o1 p ⟨j, o, hj, q1⟩
        have x12 : ExtC (Kx X) (OwnS σ σv) μ H μ2 H2 := x1.trans (A1 := fun _ => False) x2.c fun _ z => z.elim
        exact h2 μ2 _ σv (x12.trans (ExtC.mine hA nt nf) fun _ z => .inr z) (g2.mine hn2 nt nf) ((r1.ext x2).mut hj q1 nt nf (hod _ gr)) fun b hb => .inr (o1 b (own_set hj b hb))
      · exact h2.elim
    · exact h2.elim
  · rename_i q hj
    obtain ⟨iv, G2, e2, h2⟩ := AftS.so (σ := σ1) (o := ev w ei σ1 G1) h1
    obtain ⟨vj, q1, dj⟩ := r1.sl j _ hj
    refine ⟨_, q1, run_E g1 r1.e e2 fun μ2 H2 vi x2 g2 d2 => ?_⟩
    split at h2
    · rename_i iw o hq
      split at h2
      · rename_i o' hpo
        obtain ⟨kb, p, rfl, hi, qg⟩ := g2.at_ (Den.mono x2.gro dj)
        have qo := qg _ hq
        cases kb with
        | true => exact qo.elim
        | false =>
          obtain ⟨u, hp2, od2⟩ := qo
          have nt : ∀ xs, H2 p ≠ some (.tup xs) := fun xs z => by rw [hp2] at z; cases z; cases od2
          have nf : ∀ o u', H2 p ≠ some (.frz o u') := fun o u' z => by rw [hp2] at z; cases z; cases od2
          refine ⟨p, u, o, o', μ2, iw, y, rfl, hp2, od2, d2, d1.mono x2.gro, hpo, fun u' hod => ?_⟩
          have hm : (false, p) ∈ μ2 := List.mem_of_getElem? hi
          have xs3 : Ext (Kx X) μ2 H2 μ2 (upd H2 p u') := Ext.set hm nt nf
          exact h2 μ2 _ σv (x1.trans (A1 := fun _ => False) (x2.trans xs3).c fun _ z => z.elim) (g2.set hi nt nf ⟨u', upd_same, hod _ xs3.gro⟩) ((r1.ext x2).ext xs3) fun b hb => .inr (o1 b hb)
      · exact h2.elim
    · exact h2.elim
  · exact h1.elim
/-- .. of a value's -/
theorem ts_subE {c : Expr} {ec ei : E} (hv : ∀ j, ec ≠ .v j) (hu : X.A.units + 65 < cLine) (hs : notSlice b = true) (ha : PE X a (trE T X w e)) (hc : PE X c (trE T X w ec)) (hb : PE X b (trE T X w ei)) :
    PS X (.Assign [.Subscript c b p2] a pos) (trS T X w (.asg (.sub ec ei) e)) := by
  refine ⟨fun pins s σv H D I h => ?_⟩
  obtain ⟨μ, σ, G, g, rs, h⟩ := h
  rw [exec] at h
  obtain ⟨⟨y, σ1⟩, G1, e1, h1⟩ := AftS.so (σ := σ) (o := evM w e σ G) h
  refine (ps_asg (tm_of ha) (pg_sub hc hb (set_put hu) (sub_assign hs)) sole_sub rfl rfl).run pins s σv H D I ⟨μ, σ, G, y, σ1, G1, g, rs, e1, fun μ1 H1 v x1 g1 r1 o1 d1 => ?_⟩
  have h1 : AftS T X (OwnS σ σv) (stW w (.sub ec ei) y σ1 G1) μ H D := h1
  have h1' : AftS T X (OwnS σ σv) ((ev w ec σ1 G1).so σ1 fun a G => (ev w ei σ1 G).so σ1 fun i G => match a, i with
    | .val (.ref p), .val i => match G[p]? with
      | some (.obj o) => match putO o i y with
        | some o' => .nx σ1 (G.set p (.obj o'))
        | none => .bad
      | _ => .bad
    | _, _ => .bad) μ H D := by
    cases ec <;> first | exact h1 | exact absurd rfl (hv _)
  obtain ⟨av, G2, e2, h2⟩ := AftS.so (σ := σ1) h1'
  obtain ⟨iv, G3, e3, h3⟩ := AftS.so (σ := σ1) (o := ev w ei σ1 G2) h2
  refine run_E g1 r1.e e2 fun μ2 H2 va x2 g2 d2 => ?_
  refine run_E g2 (r1.ext x2).e e3 fun μ3 H3 vi x3 g3 d3 => ?_
  split at h3
  · rename_i p0 iw
    split at h3
    · rename_i o hq
      split at h3
      · rename_i o' hpo
        have d2' : Den (Kx X) μ2 H2 (.ref p0) va := d2
        obtain ⟨kb, p, rfl, hi, qg⟩ := g3.at_ (Den.mono x3.gro d2')
        have qo := qg _ hq
        cases kb with
        | true => exact qo.elim
        | false =>
          obtain ⟨u, hp2, od2⟩ := qo
          have nt : ∀ xs, H3 p ≠ some (.tup xs) := fun xs z => by rw [hp2] at z; cases z; cases od2
          have nf : ∀ o u', H3 p ≠ some (.frz o u') := fun o u' z => by rw [hp2] at z; cases z; cases od2
          refine ⟨p, u, o, o', μ3, iw, y, rfl, hp2, od2, d3, (d1.mono x2.gro).mono x3.gro, hpo, fun u' hod => ?_⟩
          have hm : (false, p) ∈ μ3 := List.mem_of_getElem? hi
          have xs3 : Ext (Kx X) μ3 H3 μ3 (upd H3 p u') := Ext.set hm nt nf
          exact h3 μ3 _ σv (x1.trans (A1 := fun _ => False) ((x2.trans x3).trans xs3).c fun _ z => z.elim) (g3.set hi nt nf ⟨u', upd_same, hod _ xs3.gro⟩) (((r1.ext x2).ext x3).ext xs3) fun b hb => .inr (o1 b hb)
      · exact h3.elim
    · exact h3.elim
  · exact h3.elim
end
end Mi
/-! what is checked of a text: statements -/
namespace Mi
open PySem PySem.Spec PyProof.Rows L2
section
variable {T : Tb} {X : Cx} {w : Wd} {a : Expr} {e : E}
theorem asgV {i : Nat} {D : Ends} {σv : L2.St} {H : Hp} (h : trS T X w (.asg (.v i) e) D σv H) : trE T X w e σv H fun v H1 => gName i v σv H1 D.nx := by
  obtain ⟨μ, σ, G, g, rs, h⟩ := h
  rw [exec] at h
  obtain ⟨⟨r, σ1⟩, G1, e1, h1⟩ := AftS.so (σ := σ) (o := evA w e σ G) h
  obtain ⟨r0, G2, e2, e3⟩ := EO.bind_ok e1
  refine run_E g rs.e e2 fun μ' H' v x g' d => ?_
  obtain ⟨rfl, r1, o1, p⟩ := tak_A rs x d e3
  refine h1 μ' H' _ x.c g' (r1.put p.d fun k o' z j k' o _ q1 q2 => p.n k o' z j k' o q1 q2) fun b hb => ?_
  obtain ⟨j, o, q1, q2⟩ := hb
  rcases get_set q1 with ⟨z, z2, hl⟩ | ⟨z, q1⟩
  · subst z
    rw [List.getElem?_set_self (r1.len ▸ hl)] at q2
    cases q2
    exact .inl (p.f o b (Option.some.inj z2).symm rfl)
  · rw [List.getElem?_set_ne z] at q2
    exact .inr (o1 b ⟨j, o, q1, q2⟩)
theorem asgB {i : Nat} {D : Ends} {σv : L2.St} {H : Hp} (h : trS T X w (.asg (.vb i) e) D σv H) : trE T X w e σv H fun v H1 => gName i v σv H1 D.nx := by
  obtain ⟨μ, σ, G, g, rs, h⟩ := h
  rw [exec] at h
  obtain ⟨⟨y, σ1⟩, G1, e1, h1⟩ := AftS.so (σ := σ) (o := evM w e σ G) h
  obtain ⟨r0, G2, e2, e3⟩ := EO.bind_ok e1
  refine run_E g rs.e e2 fun μ' H' v x g' d => ?_
  obtain ⟨μ2, x2, g2, r1, o1, d2⟩ := tak_M rs x g' d e3
  have h1 : AftS T X (OwnS σ σv) (.nx (σ1.set i (some (.val y))) G1) μ H D := h1
  refine h1 μ2 H' _ x2 g2 (r1.put (r := .val y) d2 fun k o' z => nomatch z) fun b hb => ?_
  obtain ⟨j, o, q1, q2⟩ := hb
  rcases get_set q1 with ⟨z, z2, hl⟩ | ⟨z, q1⟩
  · cases z2
  · rw [List.getElem?_set_ne z] at q2
    exact .inr (o1 b ⟨j, o, q1, q2⟩)
theorem psWeak {st : Stmt} {t u : TS} (h : PS X st t) (q : ∀ D σv H, u D σv H → t D σv H) : PS X st u := ⟨fun pins s σv H D I z => h.run pins s σv H D I (q D σv H z)⟩
/-- no comprehension -/
def notLc : Expr → Bool
  | .ListComp _ _ _ _ => false
  | .SetComp _ _ _ _ => false
  | .DictComp _ _ _ _ _ => false
  | _ => true
theorem notLc_ok (h : notLc a = true) (t : Option Expr) (l : Nat) (env : Env) : swapsWith a t l env = pure false := by
  cases a <;> first | rfl | cases h
structure Oks (T : Tb) (C : Cg) (sc : Scope) (X : Cx) (w : Wd) : Prop where
  c : Okc T C sc X w
  ps : PassesOwn (model X.prog X.w) X.A X.env X.xe
  fs : sc.kind = ScopeKind.function
  fnT : ∀ x, X.fn x = true
variable {C : Cg} {ck : Ck} {sc : Scope}
/-! ### assignments -/
def slotT : Mi.T → Option (Nat × Bool)
  | .v i => some (i, false)
  | .vb i => some (i, true)
  | _ => none
def ckName (C : Cg) (sc : Scope) (i : Nat) (x : Str) : Bool := decide (C.N[i]? = some x) && locC sc x
theorem ckName_ok {i : Nat} {x : Str} (O : Oks T C sc X w) (h : ckName C sc i x = true) : X.N[i]? = some x ∧ L2.Loc X.env.scope x := by
  simp only [ckName, Bool.and_eq_true, decide_eq_true_eq] at h
  exact ⟨by rw [O.c.N]; exact h.1, by unfold L2.Loc; rw [O.c.sc]; exact locC_ok h.2⟩
/-- is the new one stored at once -/
def swaps (x : Str) (py : Pos) (a : Expr) : Bool := match a with
  | .ListComp _ _ scope pos => (py.line == pos.line) && !(scope.names.any fun (n, k) => n == x && (k == NameKind.local || k == NameKind.cell))
  | _ => false
def unswaps (x : Str) (py : Pos) (a : Expr) : Bool := notLc a || (match a with
  | .ListComp _ _ scope pos => !((py.line == pos.line) && !(scope.names.any fun (n, k) => n == x && (k == NameKind.local || k == NameKind.cell)))
  | _ => false)
theorem unswaps_ok {x : Str} {py : Pos} {l : Nat} {env : Env} (h : unswaps x py a = true) : swapsWith a (some (.Name x py)) l env = pure false := by
  unfold unswaps at h
  rw [Bool.or_eq_true] at h
  rcases h with h | h
  · exact notLc_ok h _ _ _
  · split at h
    · rename_i elt gs scope pos
      show (pure (env.blockKind == ScopeKind.function && env.kindOf x == some NameKind.local && py.line == pos.line && !(scope.names.any fun (n, k) => n == x && (k == NameKind.local || k == NameKind.cell))) : Sem Bool) = pure false
      congr 1
      rw [Bool.and_assoc]
      simp only [Bool.not_eq_true'] at h
      rw [h, Bool.and_false]
    · cases h
/-- a cell is never stored at once -/
theorem unlocal_ok {x : Str} {py : Pos} {l : Nat} {env : Env} (h : ¬ env.scope.names.lookup x = some .local) : swapsWith a (some (.Name x py)) l env = pure false := by
  have hk : (env.kindOf x == some NameKind.local) = false := by
    have : ¬ env.kindOf x = some NameKind.local := h
    simpa using this
  have key : ∀ (sn : Scope) (b : Bool), (pure (env.blockKind == ScopeKind.function && env.kindOf x == some NameKind.local && b && !(sn.names.any fun (n, k) => n == x && (k == NameKind.local || k == NameKind.cell))) : Sem Bool) = pure false := fun sn b => by
    rw [hk]; simp
  cases a with
  | ListComp elt gs scope pos => exact key scope (py.line == pos.line)
  | SetComp elt gs scope pos => exact key scope (py.line == pos.line)
  | DictComp k v gs scope pos => exact key scope (py.line == pos.line)
  | _ => rfl
def ckLcS (C : Cg) (ck : Ck) (sc : Scope) (x : Str) (py : Pos) (e : E) (a : Expr) : Bool := match e with
  | .lc own tg ik src cond elt => swaps x py a && ckLc C ck sc own tg ik src cond elt a
  | _ => false
theorem s_lcS {i : Nat} {x : Str} {py pos : Pos} (S : Snd T C ck) (O : Oks T C sc X w) (hi : X.N[i]? = some x) (hl : X.env.scope.names.lookup x = some .local) (h : ckLcS C ck sc x py e a = true) : PS X (.Assign [.Name x py] a pos) (tAsg (trE T X w e) (gName i)) := by
  unfold ckLcS at h
  split at h
  · rw [Bool.and_eq_true] at h
    obtain ⟨hs, h⟩ := h
    unfold ckLc at h
    split at h
    · simp only [Bool.and_eq_true, List.all_eq_true, decide_eq_true_eq] at h
      obtain ⟨⟨⟨⟨⟨⟨h1, h2⟩, h3⟩, h4⟩, h5⟩, h6⟩, h7⟩ := h
      simp only [swaps, Bool.and_eq_true, Bool.not_eq_true'] at hs
      have O' := O.c
      refine ps_lcSet O'.calm O'.nd hi hl (sw_true (by rw [O'.sc]; exact O.fs) hl hs.1 hs.2) (blkOk_by (by rw [O'.N, O'.sc]; exact h1)) (ownP_snd C _) h2 (tgG_ok h3) (fun s H Ca cl fp => ?_) (fun s H Ca cl fp => ?_) (fun s H Ca cl fp => ?_) (s_walk S O' h7)
      · exact s_tg (O'.blk s H _ cl Ca fp) (fun x hx => blk_name O' hx) h4
      · exact s_if S (O'.blk s H _ cl Ca fp) h5
      · exact (S _ w _ _ _ (O'.blk s H _ cl Ca fp)).1 h6
    · cases h
  · cases h
def ckAsg (C : Cg) (ck : Ck) (sc : Scope) (t : Mi.T) (e : E) (st : Stmt) : Bool := match st with
  | .Assign [.Name x py] a _ => (match slotT t with
    | some (i, _) => ckName C sc i x && ((ck false sc e a && (unswaps x py a || !(locB sc x))) || (locB sc x && ckLcS C ck sc x py e a))
    | none => false)
  | .Assign [.Subscript o b _] a _ => (match t with
    | .sub eo ei => notSlice b && ck false sc e a && ck false sc ei b && (match eo with
      | .v j => ckV C sc j o
      | _ => ck false sc eo o)
    | _ => false)
  | _ => false
theorem s_asg {t : Mi.T} {st : Stmt} (S : Snd T C ck) (O : Oks T C sc X w) (h : ckAsg C ck sc t e st = true) : PS X st (trS T X w (.asg t e)) := by
  unfold ckAsg at h
  split at h
  · rename_i x py a pos
    split at h
    · rename_i i b hs
      rw [Bool.and_eq_true, Bool.or_eq_true] at h
      obtain ⟨hi, hl⟩ := ckName_ok O h.1
      have p : PS X (.Assign [.Name x py] a pos) (tAsg (trE T X w e) (gName i)) := by
        rcases h.2 with h2 | h2
        · rw [Bool.and_eq_true, Bool.or_eq_true] at h2
          refine ps_set O.c.nd hi hl ((S X w sc _ _ O.c).1 h2.1) ?_ (.inl (O.fnT _))
          rcases h2.2 with q | q
          · exact unswaps_ok q
          · refine unlocal_ok (fun z => ?_)
            rw [O.c.sc] at z
            simp [locB, z] at q
        · rw [Bool.and_eq_true] at h2
          exact s_lcS S O hi (by rw [O.c.sc]; exact locB_ok h2.1) h2.2
      cases t with
      | v k => cases hs; exact psWeak p fun D σv H z => asgV z
      | vb k => cases hs; exact psWeak p fun D σv H z => asgB z
      | _ => cases hs
    · cases h
  · split at h
    · rename_i eo ei
      simp only [Bool.and_eq_true] at h
      obtain ⟨⟨⟨h1, h2⟩, h3⟩, h4⟩ := h
      split at h4
      · unfold ckV at h4
        split at h4
        · simp only [Bool.and_eq_true, decide_eq_true_eq, Bool.not_eq_true'] at h4
          obtain ⟨⟨⟨q1, q2⟩, q3⟩, q4⟩ := h4
          exact ts_subV O.c.hu (by rw [O.c.N]; exact q1) (by rw [O.c.sc]; exact visB_ok q2) q3 q4 h1 ((S X w sc _ _ O.c).1 h2) ((S X w sc _ _ O.c).1 h3)
        · cases h4
      · rename_i hn
        exact ts_subE (fun j z => hn j z) O.c.hu h1 ((S X w sc _ _ O.c).1 h2) ((S X w sc _ _ O.c).1 h4) ((S X w sc _ _ O.c).1 h3)
    · cases h
  · cases h
end
end Mi
/-! what is checked of a text: all statements -/
namespace Mi
open PySem PySem.Spec PyProof.Rows L2
theorem swapped2 {env : Env} {x y : Str} {a b : Expr} {px py : Pos} {kt : Nat} {pt : Pos} {k2 : Nat} {pt2 : Pos} (hx : env.kindOf x = some .local) (hy : env.kindOf y = some .local) (hk : env.blockKind = .function) (hl : (px.line == py.line) = true) (hxy : (x == y) = false) (h7 : (foldedForSure 8 a && foldedForSure 8 b) = false) (h8 : (constantsAlone 8 a && constantsAlone 8 b) = false) (s1 : notStar a = true) (s2 : notStar b = true) :
   swappedStores [.Tuple [.Name x px, .Name y py] kt pt] (.Tuple [a, b] k2 pt2) env = pure (some [x, y]) := by
  unfold swappedStores
  dsimp only
  have key : ∀ z : Expr, notStar z = true → ¬ (match z with | .Starred _ _ => true | _ => false) = true := by
    intro z hz
    cases z <;> first | exact Bool.false_ne_true | cases hz
  have hl2 : py.line = px.line := by simpa using (beq_iff_eq.mp hl).symm
  have hxy2 : ¬ x = y := by simpa using hxy
  have hyx2 : ¬ y = x := fun z => hxy2 z.symm
  have h7' : ¬ (foldedForSure 8 a = true ∧ foldedForSure 8 b = true) := by rw [← Bool.and_eq_true, h7]; exact Bool.false_ne_true
  have h8' : ¬ (constantsAlone 8 a = true ∧ constantsAlone 8 b = true) := by rw [← Bool.and_eq_true, h8]; exact Bool.false_ne_true
  have f : List.filterMap (fun q => match q with | Expr.Name id pos => if env.kindOf id = some NameKind.local ∧ pos.line = (Expr.Name x px).pos.line then some id else none | _ => none) [Expr.Name x px, Expr.Name y py] = [x, y] := by
    have hp : (Expr.Name x px).pos.line = px.line := rfl
    simp [List.filterMap_cons, hx, hy, hp, hl2]
  simp [hk, h7', h8']
  generalize hF : List.filterMap _ [Expr.Name x px, Expr.Name y py] = L
  have hL : L = [x, y] := by rw [← hF]; exact f
  subst hL
  simp [List.eraseDups_cons, hxy2, hyx2, hxy]
  intro h
  rcases h with h | h
  · exact absurd h (key a s1)
  · exact absurd h (key b s2)
section
variable {T : Tb} {X : Cx} {w : Wd} {a : Expr} {e : E} {C : Cg} {ck : Ck} {sc : Scope}
def ckPar (C : Cg) (ck : Ck) (sc : Scope) (ts : List Mi.T) (les : List E) (st : Stmt) : Bool := match st with
  | .Assign [.Tuple [.Name x px, .Name y py] _ _] (.Tuple [a, b] _ _) _ => (match ts, les with
    | [.v i, .v j], [ea, eb] => ckName C sc i x && ckName C sc j y && (locB sc x && locB sc y) && decide (i ≠ j) && ckL ck sc [ea, eb] [a, b] && (px.line == py.line) && !(x == y) && !(foldedForSure 8 a && foldedForSure 8 b) && !(constantsAlone 8 a && constantsAlone 8 b)
    | _, _ => false)
  | _ => false
theorem s_par {ts : List Mi.T} {les : List E} {st : Stmt} (S : Snd T C ck) (O : Oks T C sc X w) (h : ckPar C ck sc ts les st = true) : PS X st (trS T X w (.asgs ts les)) := by
  unfold ckPar at h
  split at h
  · split at h
    · rename_i x px y py kt pt a b k2 pt2 pos i j ea eb
      simp only [Bool.and_eq_true, Bool.not_eq_true', decide_eq_true_eq] at h
      obtain ⟨⟨⟨⟨⟨⟨⟨⟨h1, h2⟩, hlx, hly⟩, h3⟩, h4⟩, h5⟩, h6⟩, h7⟩, h8⟩ := h
      obtain ⟨hi, _⟩ := ckName_ok O h1
      obtain ⟨hj, _⟩ := ckName_ok O h2
      have hl := locB_ok hlx
      have hm := locB_ok hly
      rw [← O.c.sc] at hl hm
      obtain ⟨q1, _, q3, _⟩ := s_L S O.c _ _ h4
      refine ts_par2 O.c.calm O.c.nd hi hj h3 hl hm q1 (swapped2 hl hm ?_ h5 h6 h7 h8 (q3 _ (by simp)) (q3 _ (by simp)))
      have hk := O.fs
      rw [← O.c.sc] at hk
      unfold PySem.Env.blockKind
      rw [hk]; rfl
    · cases h
  · cases h
def mtS1 : Mb → Option Str
  | .append => some "append" | .extend => some "extend"
  | _ => none
def ckMut (C : Cg) (ck : Ck) (sc : Scope) (i : Nat) (m : Mb) (les : List E) (st : Stmt) : Bool := match st with
  | .Expr (.Call (.Attribute o name apos) [b] [] cpos) _ => ckV C sc i o && decide (mtS1 m = some name) && notStar b && (apos.endLine == cpos.line) && (match les with
    | [eb] => ck false sc eb b
    | _ => false)
  | _ => false
theorem s_mut {i : Nat} {m : Mb} {les : List E} {st : Stmt} (S : Snd T C ck) (O : Oks T C sc X w) (h : ckMut C ck sc i m les st = true) : PS X st (trS T X w (.mut i m les)) := by
  unfold ckMut at h
  split at h
  · simp only [Bool.and_eq_true, decide_eq_true_eq] at h
    obtain ⟨⟨⟨⟨h1, h2⟩, h3⟩, h4⟩, h5⟩ := h
    split at h5
    · unfold ckV at h1
      split at h1
      · simp only [Bool.and_eq_true, decide_eq_true_eq, Bool.not_eq_true'] at h1
        obtain ⟨⟨⟨q1, q2⟩, q3⟩, q4⟩ := h1
        have pb := (S X w sc _ _ O.c).1 h5
        have n1 := O.c.N ▸ q1
        have v1 := O.c.sc ▸ visB_ok q2
        cases m with
        | append => cases h2; exact ts_mut1 (f := fun _ => appendO) (fun _ _ _ => rfl) (fun _ _ _ _ _ h => appendO_lst h) PySem.F.slot_list_append PySem.F.type_list_append sem_append n1 v1 q3 q4 h3 h4 pb
        | extend => cases h2; exact ts_mut1 (f := extendO) (fun _ _ _ => rfl) (fun _ _ _ _ _ h => extendO_lst h) PySem.F.slot_list_extend PySem.F.type_list_extend sem_extend n1 v1 q3 q4 h3 h4 pb
        | _ => cases h2
      · cases h1
    · cases h5
  · cases h
abbrev Cs := Scope → S → Stmt → Bool
def SndS (T : Tb) (C : Cg) (cs : Cs) : Prop := ∀ (X : Cx) (w : Wd) (sc : Scope) (s : S) (st : Stmt), Oks T C sc X w → cs sc s st = true → PS X st (trS T X w s)
def ckB (cs : Cs) (sc : Scope) : List S → List Stmt → Bool
  | [], [] => true
  | s :: b, st :: l => cs sc s st && ckB cs sc b l
  | _, _ => false
theorem s_B {cs : Cs} (S : SndS T C cs) (O : Oks T C sc X w) : ∀ (b : List Mi.S) (l : List Stmt), ckB cs sc b l = true → PSs X l (trB T X w b)
  | [], [], _ => tB_nil
  | [], _ :: _, h => by cases h
  | _ :: _, [], h => by cases h
  | s :: b, st :: l, h => by
    simp only [ckB, Bool.and_eq_true] at h
    exact tB_cons (S X w sc _ _ O h.1) (s_B S O b l h.2)
theorem s_Ms (S : Snd T C ck) (O : Okc T C sc X w) : ∀ (les : List E) (es : List Expr), ckL ck sc les es = true → PA X es (trEMs T X w les)
  | [], [], _ => tms_nil
  | [], _ :: _, h => by cases h
  | _ :: _, [], h => by cases h
  | e :: les, a :: es, h => by
    simp only [ckL, Bool.and_eq_true] at h
    exact tms_cons h.1.1 ((S X w sc _ _ O).1 h.1.2) (s_Ms S O les es h.2)
def chkS (C : Cg) (n : Nat) : Nat → Cs
  | 0 => fun _ _ _ => false
  | m + 1 => fun sc s st => match s with
    | .asg t e => ckAsg C (chk C n) sc t e st
    | .asgs ts es => ckPar C (chk C n) sc ts es st
    | .ex e => (match st with
      | .Expr a _ => notLc a && chk C n false sc e a
      | _ => false)
    | .mut i m es => ckMut C (chk C n) sc i m es st
    | .ret e => (match st with
      | .Return (some a) _ => chk C n false sc e a
      | .Return none _ => (match e with
        | .c .non => true
        | _ => false)
      | _ => false)
    | .retT les => (match st with
      | .Return (some (.Tuple es _ _)) _ => decide (es.length ≤ 16777216) && ckL (chk C n) sc les es
      | _ => false)
    | .if_ c a b => (match st with
      | .If c' a' b' _ => chk C n true sc c c' && ckB (chkS C n m) sc a a' && ckB (chkS C n m) sc b b'
      | _ => false)
    | .for_ tg ik src b => (match st with
      | .For at_ ai lb [] _ => notSet ai && ckTg C sc tg at_ && ckWalk (chk C n) sc ik src at_ ai && ckB (chkS C n m) sc b lb
      | _ => false)
    | .while_ c b => (match st with
      | .While c' b' [] _ => chk C n true sc c c' && ckB (chkS C n m) sc b b'
      | _ => false)
    | .raise _ _ => true
    | .pass => (match st with
      | .Pass _ => true
      | .Expr (.Constant (.str _) _ _) _ => true
      | _ => false)
    | _ => false
theorem chkS_snd {n : Nat} : ∀ m, SndS T C (chkS C n m)
  | 0 => fun X w sc s st O h => nomatch h
  | m + 1 => fun X w sc s st O h => by
    have S : Snd T C (chk C n) := chk_snd n
    have SS : SndS T C (chkS C n m) := chkS_snd m
    have O' := O.c
    cases s with
    | asg t e => exact s_asg S O h
    | asgs ts es => exact s_par S O h
    | ex e =>
      cases st with
      | Expr a pos =>
        have h : (notLc a && chk C n false sc e a) = true := h
        rw [Bool.and_eq_true] at h
        exact ts_ex ((S X w sc _ _ O').1 h.2) (notLc_ok h.1 _ _ _)
      | _ => cases h
    | «mut» i m es => exact s_mut S O h
    | ret e =>
      unfold chkS at h
      dsimp only at h
      split at h
      · exact ts_ret ((S X w sc _ _ O').1 h)
      · split at h
        · exact ts_retN
        · cases h
      · cases h
    | retT les =>
      unfold chkS at h
      dsimp only at h
      split at h
      · simp only [Bool.and_eq_true, decide_eq_true_eq] at h
        obtain ⟨_, _, _, q⟩ := s_L S O' _ _ h.2
        exact ts_retT h.1 q (s_Ms S O' _ _ h.2)
      · cases h
    | if_ c a b =>
      cases st with
      | If c' a' b' pos =>
        have h : (chk C n true sc c c' && ckB (chkS C n m) sc a a' && ckB (chkS C n m) sc b b') = true := h
        simp only [Bool.and_eq_true] at h
        exact ts_if ((S X w sc _ _ O').2 h.1.1) (s_B SS O _ _ h.1.2) (s_B SS O _ _ h.2)
      | _ => cases h
    | for_ tg ik src b =>
      unfold chkS at h
      dsimp only at h
      split at h
      · simp only [Bool.and_eq_true] at h
        obtain ⟨⟨⟨h1, h2⟩, h3⟩, h4⟩ := h
        exact ts_for O.ps O'.calm h1 (s_walk S O' h3) (s_tg O' (fun x hx => ⟨by unfold L2.Loc; rw [O'.sc]; exact locC_ok hx, .inl (O.fnT _)⟩) h2) (s_B SS O _ _ h4)
      · cases h
    | while_ c b =>
      unfold chkS at h
      dsimp only at h
      split at h
      · simp only [Bool.and_eq_true] at h
        exact ts_while O.ps ((S X w sc _ _ O').2 h.1) (s_B SS O _ _ h.2)
      · cases h
    | raise c eo => exact ts_raise
    | pass =>
      unfold chkS at h
      dsimp only at h
      split at h
      · exact ts_pass
      · exact ts_doc
      · cases h
    | _ => cases h
end
end Mi
/-! defs -/
namespace Mi
open PySem PySem.Spec PyProof.Rows L2
section
variable {T : Tb} {K : Kw} {μ : Mu} {H : Hp} {rs : List R} {vs : List V} {n : Nat}
theorem startS_get {i : Nat} {r : R} : (startS n rs)[i]? = some (some r) ↔ rs[i]? = some r := by
  unfold startS
  by_cases h : i < rs.length
  · rw [List.getElem?_append_left (by simpa using h), List.getElem?_map]
    cases hr : rs[i]? with
    | none => simp
    | some x => simp
  · have h2 : rs[i]? = none := List.getElem?_eq_none (by omega)
    rw [List.getElem?_append_right (by simpa using Nat.le_of_not_lt h), h2, List.getElem?_replicate]
    simp
theorem start_get {N : List Str} {i : Nat} {v : V} : (L2.start N vs)[i]? = some (some v) ↔ vs[i]? = some v := by
  unfold L2.start
  by_cases h : i < vs.length
  · rw [List.getElem?_append_left (by simpa using h), List.getElem?_map]
    cases hr : vs[i]? with
    | none => simp
    | some x => simp
  · have h2 : vs[i]? = none := List.getElem?_eq_none (by omega)
    rw [List.getElem?_append_right (by simpa using Nat.le_of_not_lt h), h2, List.getElem?_replicate]
    simp
theorem sep_at : ∀ {rs : List R} {vs : List V}, Sep rs vs → ∀ (i j : Nat) (o o' : O) (v : V), i < j → rs[i]? = some (.obj .own o) → rs[j]? = some (.obj .own o') → vs[i]? = some v → vs[j]? ≠ some v
  | r :: rs, v0 :: vs, h, 0, j + 1, o, o', v, hij, h1, h2, h3 => by
    simp at h1 h2 h3
    subst h3
    rw [List.getElem?_cons_succ]
    exact h.1 o j o' h1 h2
  | r :: rs, v0 :: vs, h, i + 1, j + 1, o, o', v, hij, h1, h2, h3 => by
    rw [List.getElem?_cons_succ] at h1 h2 h3 ⊢
    exact sep_at h.2 i j o o' v (by omega) h1 h2 h3
  | [], _, _, i, j, o, o', v, _, h1, _, _ => by simp at h1
  | _ :: _, [], _, i, j, o, o', v, _, _, _, h3 => by simp at h3
theorem start_rep {N : List Str} (hn : N.length = n) (d : ArgD K μ H rs vs) : RepS K μ (startS n rs) (L2.start N vs) H := by
  have hl : rs.length = vs.length := Paired.length d.d
  refine ⟨by unfold startS L2.start; simp [hl, hn], fun i r h => ?_, fun i j o k o' a h1 h2 h3 h4 => ?_⟩
  · obtain ⟨v, h1, h2⟩ := Paired.at_ d.d (startS_get.mp h)
    exact ⟨v, start_get.mpr h1, h2⟩
  · rw [startS_get] at h1 h2
    rw [start_get] at h3 h4
    cases k with
    | own =>
      by_cases e : i = j
      · exact e
      · exfalso
        by_cases l : i < j
        · exact sep_at d.own i j _ _ _ l h1 h2 h3 h4
        · exact sep_at d.own j i _ _ _ (by omega) h2 h1 h4 h3
    | frz => exact absurd h4 (d.frz i j _ _ a h1 h3 h2)
    | brw => obtain ⟨_, _, z⟩ := Paired.at_ d.d h2; exact z.elim
    | top => obtain ⟨_, _, z⟩ := Paired.at_ d.d h2; exact z.elim
theorem start_own {N : List Str} {a : Addr} : OwnS (startS n rs) (L2.start N vs) a ↔ Own rs vs a := by
  constructor
  · rintro ⟨i, o, h1, h2⟩; exact ⟨i, o, startS_get.mp h1, start_get.mp h2⟩
  · rintro ⟨i, o, h1, h2⟩; exact ⟨i, o, startS_get.mpr h1, start_get.mpr h2⟩
end
/-- a def's end, by Mini -/
theorem ends_of {T : Tb} {X : Cx} {A : Addr → Prop} {o : SO} {μ : Mu} {H : Hp} {Q : VK} {r : R} {G' : Gp} (h : o.fo = .ok r G') (q : ∀ μ' H' v, ExtC (Kx X) A μ H μ' H' → RepG T (Kx X) μ' G' H' → RetD (Kx X) A H μ' H' r v → Q v H') : AftS T X A o μ H { nx := fun _ H' => Q V.non H', rt := Q } := by
  cases o with
  | nx σ G => cases h; exact fun μ' H' σv' x g _ _ => q μ' H' .non x g .non
  | ret r G => cases h; exact fun μ' H' v x g d => q μ' H' v x g d
  | bk _ _ => cases h
  | ct _ _ => cases h
  | exc _ _ _ _ => cases h
  | bad => cases h
theorem ExtC.weak {K : Kw} {A A1 : Addr → Prop} {μ μ' : Mu} {H H' : Hp} (e : ExtC K A μ H μ' H') (h : ∀ a, A a → A1 a) : ExtC K A1 μ H μ' H' := ⟨e.pre, fun a z n => (e.new a z n).imp id (h a), fun a o z n na => e.keep a o z n fun w => na (h a w), e.tup, e.grow, e.frz⟩
theorem RetD.weak {K : Kw} {A A1 : Addr → Prop} {μ' : Mu} {H H' : Hp} {r : R} {v : V} (e : RetD K A H μ' H' r v) (h : ∀ a, A a → A1 a) : RetD K A1 H μ' H' r v := by
  cases r with
  | val x => exact e
  | exv _ _ => exact e.elim
  | obj k o =>
    cases k with
    | own => obtain ⟨a, u, e1, h1, h2, h3, h4⟩ := e; exact ⟨a, u, e1, h1, h2, h3, h4.imp id (h a)⟩
    | _ => exact e.elim
end Mi
/-! all defs -/
namespace Mi
open PySem PySem.Spec PyProof.Rows L2
/-- a def's text: slots, parameters, row's arguments, body, scope -/
structure Dt where
  nm : Str
  N : List Str
  ps : List Str
  args : Arguments
  body : List Stmt
  sc : Scope
/-- the facts of the top -/
structure Top (T : Tb) (Pr : Program) (w : World) (K : PySem.W.Frag) (mg : Str → Option Value) (base : Heap) (P : Pg) (cfn : Nat → Option (Str × Nat)) (cgl : Nat → Option Str) (pso : Nat → List Str) : Prop where
  bi : ∀ x ∈ biNames, mg x = none
  fn : ∀ f x n, cfn f = some (x, n) → ∃ (fa : Addr) (fd : FuncData) (d : Dt) (F : Fd), FunD K d.nm d.nm d.args d.body d.sc [] [] fa fd ∧ FnScope d.N d.ps d.sc ∧ Binds K fd d.ps [] ∧ mg x = some (.ref fa) ∧ PySem.W.keepIn K (.ref fa) = true ∧ P.fn f = some F ∧
    F.np = n ∧ d.ps = pso f ∧ d.ps.length = n ∧ F.ns = d.N.length ∧ ckB (chkS ⟨d.N, cfn, cgl⟩ 60 60) d.sc F.body d.body = true
  gl : ∀ k x, cgl k = some x → ∃ (v : V) (u : Value), mg x = some u ∧ L2.RelV v u ∧ ∀ r, P.gl k = some r → ∀ B H0 μ H, RD ⟨K, w⟩ B H0 μ H r v
section
variable {T : Tb} {Pr : Program} {w : World} {K : PySem.W.Frag} {mg : Str → Option Value} {base : Heap} {P : Pg} {cfn : Nat → Option (Str × Nat)} {cgl : Nat → Option Str} {pso : Nat → List Str}
theorem run_len {d f : Nat} {F : Fd} {rs : List R} {G G' : Gp} {r : R} (hF : P.fn f = some F) (h : run P d f rs G = .ok r G') : rs.length = F.np := by
  match d, h with
  | 0, h => unfold run at h; cases h
  | 1, h =>
    unfold run runF at h
    rw [hF] at h
    dsimp only at h
    split at h
    · assumption
    · cases h
  | d + 2, h =>
    unfold run runF at h
    rw [hF] at h
    dsimp only at h
    split at h
    · assumption
    · cases h
theorem spC_len {n : Nat} {cf : List R → Gp → FO} (vs : List V) (H : Hp) (Q : VK) (E : XK) (h : spC T ⟨K, w⟩ n cf vs H Q E) : vs.length = n := h.1
theorem CallOk.of_level {X : Cx} {wd : Wd} {f n : Nat} {x : Str} {P : Pg} {d : Nat} {F : Fd} (hF : P.fn f = some F) (hn : F.np = n) (hw : wd.cf f = run P d f)
    (ex : ∃ (fa : Addr) (fd : FuncData) (ps : List Str), ps.length = n ∧ FnOk X.prog X.w X.K X.mg X.base (L2.CX X.prog X.w) d fa fd ps (spC T (Kx X) n (run P d f)) ∧ X.mg x = some (.ref fa) ∧ PySem.W.keepIn X.K (.ref fa) = true ∧ Binds X.K fd ps []) (hr : Room d X.A) : CallOk T X wd f x n where
  ar := fun rs G r G' h => by rw [hw] at h; rw [← hn]; exact run_len hF h
  ex := by
    obtain ⟨fa, fd, ps, h1, h2, h3, h4, h5⟩ := ex
    exact ⟨fa, fd, ps, d, h1, by rw [hw]; exact h2, hr, h3, h4, h5⟩
def FnL (T : Tb) (Pr : Program) (w : World) (K : PySem.W.Frag) (mg : Str → Option Value) (base : Heap) (P : Pg) (cfn : Nat → Option (Str × Nat)) (pso : Nat → List Str) (d : Nat) : Prop := ∀ f x n, cfn f = some (x, n) →
  ∃ (fa : Addr) (fd : FuncData), (pso f).length = n ∧ FnOk Pr w K mg base (L2.CX Pr w) d fa fd (pso f) (spC T ⟨K, w⟩ n (run P d f)) ∧ mg x = some (.ref fa) ∧ PySem.W.keepIn K (.ref fa) = true ∧ Binds K fd (pso f) [] ∧ ∃ oc od osl, K.lookup fa = some ⟨oc, od, .func fd, osl⟩
theorem cap_units {d : Nat} {A : Around} (r : Room d A) : A.units + 65 < cLine := by have := r.un; omega
/-- one level up -/
theorem step_ok (O : Top T Pr w K mg base P cfn cgl pso) {d : Nat} (L : FnL T Pr w K mg base P cfn pso d) {wd : Wd} (hcf : wd.cf = run P d) (hgl : wd.gl = P.gl) (hrun : ∀ f rs G, run P (d + 1) f rs G = runF P wd f rs G) : FnL T Pr w K mg base P cfn pso (d + 1) := by
  intro f x n hf
  obtain ⟨fa, fd, dt, F, FD, S, B, hm, hk, hF, hnp, hpo, hps, hns, hc⟩ := O.fn f x n hf
  rw [← hpo]
  refine ⟨fa, fd, hps, ?_, hm, hk, B, by obtain ⟨oc, od, _, _, _, _, _, _, _, osl, _, lk, _⟩ := FD.ex; exact ⟨oc, od, osl, lk⟩⟩
  refine FD.ok S (fun vs H Q E h => by rw [hps]; exact h.1) fun cdv A outer s H vs Q E hr h => ?_
  obtain ⟨hl, μ, G, rs, g, ad, r, G', hrn, q⟩ := h
  rw [hrun] at hrn
  unfold runF at hrn
  rw [hF] at hrn
  dsimp only at hrn
  split at hrn
  · rename_i hlen
    have Ok : Okc T ⟨dt.N, cfn, cgl⟩ dt.sc (cxOf (L2.CX Pr w) Pr w K mg base dt.N dt.nm dt.sc fa cdv A outer s H E) wd :=
      { N := rfl, nd := S.nd, sc := rfl, calm := rfl, hu := cap_units hr, bi := O.bi
        fn := fun f' x' n' hf' => by
          obtain ⟨_, _, _, F', _, _, _, _, _, hF', hnp', _⟩ := O.fn f' x' n' hf'
          obtain ⟨fa', fd', z1, z2, z3, z4, z5, _⟩ := L f' x' n' hf'
          exact CallOk.of_level hF' hnp' (by rw [hcf]) ⟨fa', fd', pso f', z1, z2, z3, z4, z5⟩ hr
        gl := fun k y hy => ⟨by
          obtain ⟨v, u, h1, h2, h3⟩ := O.gl k y hy
          exact ⟨v, u, h1, h2, by rw [hgl]; exact h3⟩⟩ }
    have Os : Oks T ⟨dt.N, cfn, cgl⟩ dt.sc (cxOf (L2.CX Pr w) Pr w K mg base dt.N dt.nm dt.sc fa cdv A outer s H E) wd := ⟨Ok, passes_of rfl, S.kind, fun _ => rfl⟩
    refine ⟨trB T (cxOf (L2.CX Pr w) Pr w K mg base dt.N dt.nm dt.sc fa cdv A outer s H E) wd F.body, s_B (chkS_snd 60) Os _ _ hc, μ, startS F.ns rs, G, g, start_rep hns.symm ad, ?_⟩
    refine ends_of hrn fun μ' H' v x' g' d' => ?_
    exact q μ' H' v (x'.weak fun a h => start_own.mp h) g' (d'.weak fun a h => start_own.mp h)
  · cases hrn
theorem lev0 (O : Top T Pr w K mg base P cfn cgl pso) : FnL T Pr w K mg base P cfn pso 0 := by
  intro f x n hf
  obtain ⟨fa, fd, dt, F, FD, S, B, hm, hk, hF, hnp, hpo, hps, hns, hc⟩ := O.fn f x n hf
  rw [← hpo]
  refine ⟨fa, fd, hps, ⟨fun vs H Q E h => by rw [hps]; exact h.1, fun A outer s H args us vs Q E hr he hb hv h => ?_⟩, hm, hk, B, by obtain ⟨oc, od, _, _, _, _, _, _, _, osl, _, lk, _⟩ := FD.ex; exact ⟨oc, od, osl, lk⟩⟩
  obtain ⟨_, _, _, _, _, _, r, G', hrn, _⟩ := h
  unfold run at hrn
  cases hrn
theorem all_ok (O : Top T Pr w K mg base P cfn cgl pso) : ∀ d, FnL T Pr w K mg base P cfn pso d
  | 0 => lev0 O
  | 1 => step_ok (d := 0) O (lev0 O) (wd := P.wd (fun _ _ _ => .bad) (fun _ _ _ => .bad)) (by funext f rs G; unfold run; rfl) rfl (fun f rs G => by unfold run; rfl)
  | d + 2 => step_ok (d := d + 1) O (all_ok O (d + 1)) (wd := P.wd (run P (d + 1)) (run P d)) rfl rfl (fun f rs G => by rw [run])
end
end Mi
/-! the top: what a text's tables give, the end -/
namespace Mi
open PySem PySem.Spec PyProof.Rows L2
/-- a def, as a table has it -/
structure En where
  id : Nat
  nm : Str
  np : Nat
  N : List Str
  ps : List Str
  args : Arguments
  body : List Stmt
  sc : Scope
def En.of (id : Nat) (nm : Str) (np : Nat) (N : List Str) (st : Stmt) : En := ⟨id, nm, np, N, N.take np, defArgs st, defBody st, defScope st⟩
def En.dd (e : En) : He.DefD := ⟨(e.nm, none), e.nm, e.nm, e.args, e.body, e.sc, [], []⟩
/-- a constant of the top -/
inductive Ce where
  | int (k : Nat) (x : Str) (i : Int)
  | str (k : Nat) (x : Str) (z : Tx)
  | tup (k : Nat) (x : Str) (zs : List Tx)
  | dct (k : Nat) (x : Str) (kvs : List (Tx × Int))
def Ce.k : Ce → Nat
  | .int k _ _ => k | .str k _ _ => k | .tup k _ _ => k | .dct k _ _ => k
def Ce.x : Ce → Str
  | .int _ x _ => x | .str _ x _ => x | .tup _ x _ => x | .dct _ x _ => x
def Ce.r : Ce → R
  | .int _ _ i => .val (.int i)
  | .str _ _ z => .val (.str z)
  | .tup _ _ zs => .val (.tup (zs.map .str))
  | .dct _ _ kvs => .obj .top (.dct (kvs.map fun p => (.str p.1, .int p.2)))
def entV (e : DictEntry) : Option (Str × Int) := match e.key, e.val with
  | .str x _, .int i _ => some (x, i)
  | _, _ => none
def tabB (K : PySem.W.Frag) (a : Addr) (kvs : List (Tx × Int)) : Bool := match K.lookup a with
  | some ⟨_, _, .dict es _, _⟩ => decide (es.toList.map entV = kvs.map fun p => some (tS p.1, p.2))
  | _ => false
def tOkB (s : Tx) : Bool := s.all fun c => decide (c < 1114112)
theorem tOkB_ok {s : Tx} (h : tOkB s = true) : tOk s := fun c hc => of_decide_eq_true (List.all_eq_true.mp h c hc)
def Ce.ok (K : PySem.W.Frag) : Ce → Bool
  | .int _ x i => (He.Fa.int x i).ok K
  | .str _ x z => (He.Fa.str x (tS z)).ok K && tOkB z
  | .tup _ x zs => (He.Fa.glo x).ok K && He.tupB K x (zs.map fun z => .str (tS z)) && zs.all tOkB
  | .dct _ x kvs => (He.Fa.glo x).ok K && tabB K (He.ga K x) kvs
def Ce.tab : Ce → Option He.Tab
  | .dct _ x kvs => some (fun K => He.ga K x, kvs.map fun p => tS p.1)
  | _ => none
theorem find_ent {kvs : List (Tx × Int)} {s : Tx} : ∀ {es : List DictEntry}, es.map entV = kvs.map (fun p => some (tS p.1, p.2)) →
    (es.find? (fun e => e.key.isStr (tS s)) = none ∧ (kvs.map fun p => ((W.str p.1 : W), (W.int p.2 : W))).lookup (.str s) = none) ∨ ∃ e i, es.find? (fun e => e.key.isStr (tS s)) = some e ∧ RelV (.int i) e.val ∧ (kvs.map fun p => ((W.str p.1 : W), (W.int p.2 : W))).lookup (.str s) = some (.int i) := by
  induction kvs with
  | nil => intro es h; cases es with
    | nil => exact .inl ⟨rfl, rfl⟩
    | cons _ _ => cases h
  | cons p r ih =>
    intro es h
    cases es with
    | nil => cases h
    | cons e es =>
      rw [List.map_cons, List.map_cons] at h
      injection h with h1 h2
      unfold entV at h1
      split at h1
      · rename_i x t i u hk hv
        cases h1
        by_cases c : p.1 = s
        · refine .inr ⟨e, p.2, ?_, ?_, ?_⟩
          · rw [List.find?_cons, hk]
            have : (Value.str (tS p.1) t).isStr (tS s) = true := by rw [c]; exact beq_self_eq_true _
            rw [this]
          · rw [hv]; exact ⟨_, rfl⟩
          · rw [List.map_cons, List.lookup_cons, c]; simp
        · have n1 : (Value.str (tS p.1) t).isStr (tS s) = false := by
            have : tS p.1 ≠ tS s := fun z => c (tS_inj z)
            show (tS p.1 == tS s) = false
            simpa using this
          have n2 : ((W.str s : W) == (W.str p.1 : W)) = false := by
            simp; exact fun z => c z.symm
          rw [List.find?_cons, hk, n1, List.map_cons, List.lookup_cons, n2]
          exact ih h2
      · cases h1
theorem noRef {kvs : List (Tx × Int)} : ∀ {es : List DictEntry}, es.map entV = kvs.map (fun p => some (tS p.1, p.2)) → es.any (·.refKey) = false := by
  induction kvs with
  | nil => intro es h; cases es with
    | nil => rfl
    | cons _ _ => cases h
  | cons p r ih =>
    intro es h
    cases es with
    | nil => cases h
    | cons e es =>
      rw [List.map_cons, List.map_cons] at h
      injection h with h1 h2
      unfold entV at h1
      split at h1
      · rename_i x t i u hk hv
        rw [List.any_cons, ih h2, Bool.or_false]
        unfold DictEntry.refKey
        rw [hk]
      · cases h1
theorem tab_ok {K : PySem.W.Frag} {a : Addr} {kvs : List (Tx × Int)} (h : tabB K a kvs = true) (s : Tx) : ∃ r, PySem.W.nsIn K a (tS s) = some r ∧ match (kvs.map fun p => ((W.str p.1 : W), (W.int p.2 : W))).lookup (.str s) with
    | some x => ∃ i u, r = some u ∧ RelV (.int i) u ∧ x = .int i
    | none => r = none := by
  unfold tabB at h
  split at h
  · rename_i es n _ hk
    have h := of_decide_eq_true h
    unfold PySem.W.nsIn
    rw [hk]
    dsimp only
    rcases find_ent (s := s) h with ⟨h1, h2⟩ | ⟨e, i, h1, h2, h3⟩
    · rw [h1, h2]
      dsimp only
      rw [noRef h]
      exact ⟨none, rfl, rfl⟩
    · rw [h1, h3]
      exact ⟨some e.val, rfl, i, e.val, rfl, h2, rfl⟩
  · cases h
def cfnOf (fns : List En) (f : Nat) : Option (Str × Nat) := (fns.find? fun e => e.id == f).map fun e => (e.nm, e.np)
def psOf (fns : List En) (f : Nat) : List Str := match fns.find? fun e => e.id == f with
  | some e => e.ps
  | none => []
def cglOf (cs : List Ce) (k : Nat) : Option Str := (cs.find? fun e => e.k == k).map Ce.x
def scopeB (N P : List Str) (sc : Scope) : Bool := decide (sc.kind = .function) && !sc.isCoroutine && !sc.isGenerator && decide N.Nodup && decide (N.take P.length = P) && P.all (fun x => match sc.names.lookup x with
  | some .local => true
  | some .cell => true
  | _ => false) && sc.names.all fun y => !(decide (y.2 = .free))
theorem scopeB_ok {N P : List Str} {sc : Scope} (h : scopeB N P sc = true) : FnScope N P sc := by
  unfold scopeB at h
  simp only [Bool.and_eq_true, decide_eq_true_eq, Bool.not_eq_true', List.all_eq_true] at h
  obtain ⟨⟨⟨⟨⟨⟨h1, h2⟩, h3⟩, h4⟩, h5⟩, h6⟩, h7⟩ := h
  refine ⟨h1, h2, h3, h4, h5, fun x hx => ?_, fun y hy => ?_⟩
  · have := h6 x hx
    split at this
    · exact .inl (by assumption)
    · exact .inr (by assumption)
    · cases this
  · have := h7 y hy
    simpa using this
def enOk (P : Pg) (cfn : Nat → Option (Str × Nat)) (cgl : Nat → Option Str) (e : En) : Bool := match P.fn e.id with
  | none => false
  | some F => decide (F.np = e.np) && decide (e.ps.length = e.np) && decide (F.ns = e.N.length) && scopeB e.N e.ps e.sc && ckB (chkS ⟨e.N, cfn, cgl⟩ 60 60) e.sc F.body e.body
/-- its arguments are bound in turn -/
def BindE (e : En) : Prop := ∀ (kV doc pm : Value) (an : Option Addr) (cdv ct : Value) (us : List Value), us.length = e.ps.length → bindArgs (PySem.W.fnOf e.nm e.nm e.args e.body e.sc .none kV doc pm an cdv ct) ⟨us, []⟩ = pure (e.ps.zip us)
def AllP {α : Type} (p : α → Prop) : List α → Prop
  | [] => True
  | a :: r => p a ∧ AllP p r
theorem AllP.mem {α : Type} {p : α → Prop} : ∀ {l : List α}, AllP p l → ∀ a ∈ l, p a
  | b :: r, h, a, ha => by
    rcases List.mem_cons.mp ha with rfl | ha
    · exact h.1
    · exact AllP.mem h.2 a ha
section
variable {Pr : Program} {w : World} {K : PySem.W.Frag} {h : Heap} {mg : Str → Option Value} {base : Heap} {P : Pg} {fns : List En} {cs : List Ce}
def faOf (fns : List En) : List He.Fa := (biNames.map He.Fa.free) ++ fns.map fun e => .glo e.nm
def tsOf (cs : List Ce) : List He.Tab := cs.filterMap Ce.tab
def exOf (cs : List Ce) (K : PySem.W.Frag) : Bool := cs.all fun c => c.ok K
theorem lookup_tup {K : Kw} {μ : Mu} {H : Hp} : ∀ zs : List Tx, zs.all tOkB = true → Dens K μ H (zs.map .str) ((zs.map fun z => (He.Dv.str (tS z))).map (He.Dv.v K.K))
  | [], _ => .nil
  | z :: zs, h => by
    rw [List.all_cons, Bool.and_eq_true] at h
    exact .cons (.str z (tOkB_ok h.1)) (lookup_tup zs h.2)
theorem top_ok (T : Tb) (X : K.In h) (G : h.Ns mainGlobals mg) (c : He.SaysX (faOf fns) (fns.map En.dd) (tsOf cs) [] (exOf cs) w h K) (hb : AllP BindE fns) (hc : fns.all (enOk P (cfnOf fns) (cglOf cs)) = true) (hk : ∀ c ∈ cs, P.gl c.k = some c.r) : Top T Pr w K mg base P (cfnOf fns) (cglOf cs) (psOf fns) where
  bi := fun x hx => He.free_ok X G (c.t.d.facts (f := .free x) (List.mem_append.mpr (.inl (List.mem_map.mpr ⟨x, hx, rfl⟩))))
  fn := fun f x n hf => by
    unfold cfnOf at hf
    rw [Option.map_eq_some_iff] at hf
    obtain ⟨e, h1, h2⟩ := hf
    have he := List.mem_of_find?_eq_some h1
    have hid : e.id = f := by
      have := List.find?_some h1
      simpa using this
    cases h2
    have ho := List.all_eq_true.mp hc e he
    unfold enOk at ho
    split at ho
    · cases ho
    · rename_i F hF
      simp only [Bool.and_eq_true, decide_eq_true_eq] at ho
      obtain ⟨⟨⟨⟨o1, o2⟩, o3⟩, o4⟩, o5⟩ := ho
      obtain ⟨fd, FD⟩ := c.t.d.defs (d := e.dd) (List.mem_map.mpr ⟨e, he, rfl⟩)
      have hm := He.glo_ok X G (c.t.d.facts (f := .glo e.nm) (List.mem_append.mpr (.inr (List.mem_map.mpr ⟨e, he, rfl⟩))))
      refine ⟨He.ga K e.nm, fd, ⟨e.nm, e.N, e.ps, e.args, e.body, e.sc⟩, F, FD, scopeB_ok o4, ?_, hm, FD.kp, by rw [← hid]; exact hF, o1, by unfold psOf; rw [h1], o2, o3, o5⟩
      exact FunD.bindsN FD (AllP.mem hb e he)
  gl := fun k x hx => by
    unfold cglOf at hx
    rw [Option.map_eq_some_iff] at hx
    obtain ⟨e, h1, h2⟩ := hx
    have he := List.mem_of_find?_eq_some h1
    have hid : e.k = k := by
      have := List.find?_some h1
      simpa using this
    have hr := hk e he
    have ho := List.all_eq_true.mp c.more e he
    rw [hid] at hr
    subst h2
    cases e with
    | int k' x i =>
      obtain ⟨t, e1⟩ := He.int_ok X G ho
      refine ⟨.int i, _, e1, ⟨t, rfl⟩, fun r q B H0 μ H => ?_⟩
      rw [hr] at q; cases q
      exact Den.int i
    | str k' x z =>
      obtain ⟨o1, o2⟩ := He.ba ho
      obtain ⟨t, e1⟩ := He.str_ok X G o1
      refine ⟨.str (tS z), _, e1, ⟨t, rfl⟩, fun r q B H0 μ H => ?_⟩
      rw [hr] at q; cases q
      exact Den.str z (tOkB_ok o2)
    | tup k' x zs =>
      obtain ⟨o1, o3⟩ := He.ba ho
      obtain ⟨o1, o2⟩ := He.ba o1
      have e1 := He.glo_ok X G o1
      refine ⟨.ref (He.ga K x), _, e1, rfl, fun r q B H0 μ H => ?_⟩
      rw [hr] at q; cases q
      exact Den.tup (He.tupB_ok o2 H) (lookup_tup (K := ⟨K, w⟩) zs o3)
    | dct k' x kvs =>
      obtain ⟨o1, o2⟩ := He.ba ho
      have e1 := He.glo_ok X G o1
      have ht : (fun K => He.ga K x, kvs.map fun p => tS p.1) ∈ tsOf cs := List.mem_filterMap.mpr ⟨_, he, rfl⟩
      obtain ⟨i, hi, ei⟩ := List.mem_iff_getElem.mp ht
      obtain ⟨es, n, kd⟩ := c.t.tab i (t := (fun K => He.ga K x, kvs.map fun p => tS p.1)) (by rw [List.getElem?_eq_getElem hi, ei])
      refine ⟨.ref (He.ga K x), _, e1, rfl, fun r q B H0 μ H => ?_⟩
      rw [hr] at q; cases q
      refine ⟨_, rfl, es, n, kd, fun s => ?_⟩
      obtain ⟨r, e2, q⟩ := tab_ok o2 s
      refine ⟨r, e2, ?_⟩
      revert q
      cases (kvs.map fun p => ((W.str p.1 : W), (W.int p.2 : W))).lookup (.str s) with
      | none => exact fun q => q
      | some y => exact fun ⟨i, u, q1, q2, q3⟩ => ⟨.int i, u, q1, q2, by rw [q3]; exact .int i⟩
/-- the law's def, called with the script -/
theorem law_sp {T : Tb} {D f : Nat} {a : Addr} {ns : List Int} {H : Hp} (hS : SqL K H a (ns.map V.int)) {G' : Gp} (hr : run P D f [.val (.ref 0)] [.frz (.lst (ns.map .int))] = .ok (.val (.bl true)) G') :
    spC T ⟨K, w⟩ 1 (run P D f) [.ref a] H (fun v _ => v = .bl true) fun _ _ _ => False := by
  have key : ∀ k : Bool, GD T ⟨K, w⟩ [(k, a)] H (.frz (.lst (ns.map .int))) (k, a) → spC T ⟨K, w⟩ 1 (run P D f) [.ref a] H (fun v _ => v = .bl true) fun _ _ _ => False := fun k hg => by
    refine ⟨rfl, [(k, a)], [.frz (.lst (ns.map .int))], [.val (.ref 0)], ⟨rfl, fun i j b h1 h2 => ?_, fun i g b h1 h2 => ?_⟩, ⟨.cons (Den.ref (i := 0) rfl) .nil, ⟨fun _ _ _ z => (nomatch z), trivial⟩, fun i j o o' b h1 => ?_⟩, _, G', hr, fun μ' H' v x g d => ?_⟩
    · cases i with
      | zero => cases j with
        | zero => rfl
        | succ j => simp at h2
      | succ i => simp at h1
    · cases i with
      | zero => simp at h1 h2; subst h1 h2; exact hg
      | succ i => simp at h1
    · cases i with
      | zero => simp at h1
      | succ i => simp at h1
    · exact Den.blI d
  rcases hS with h | ⟨o, its, n, h⟩
  · exact key false ⟨_, h, .lst (Dens.intsW ns)⟩
  · exact key true ⟨_, ⟨o, its, n, h⟩, Dens.intsW ns⟩
end
end Mi
namespace Mi
open PySem PySem.Spec PyProof.Rows L2
/-- the layer's own end, its exceptions by the world -/
theorem walk_ofM {l : PySem.W.OpenLaw} {n k : Nat} {q : Program} {loose : List Str} {XP : (Str → Option Value) → Heap → Prop} {YP : World → Heap → Prop} {d : DefRec} {x : Str}
    (hn : l.most = some n) (hn2 : n ≤ sizeLine) (hdf : d.params.defaults = []) (hr : Room k callerA)
    (F : ∀ (w : World) (mg : Str → Option Value) (fa : Addr) (h : Heap), YP w h → h.Ns mainGlobals mg → mg d.name = some (.ref fa) →
      ∃ (K : PySem.W.Frag) (fd : FuncData) (sp : Sp), K.In h ∧ (∀ (s : Shared) (u : Value), BindsTo s fd ⟨[u], []⟩ [(x, u)]) ∧
        (∀ (H : Hp) (a : Addr) (ns : List Int), ns.length ≤ n → Only H → SqL K H a (ns.map V.int) → sp [.ref a] H (fun v _ => v = .bl true) fun _ _ _ => False) ∧
        ∀ base : Heap, K.In base → base.Ns mainGlobals mg → FnOk l.prog w K mg base (L2.CX l.prog w) k fa fd [x] sp) :
    PySem.W.WalkO q loose XP YP l.row.toRowW d [] (fun f vs => PySem.call f vs) := by
  refine Att.attach_call hn hdf fun w s₀ s₁ mg mb fa o pm cd doc a vs ns G Y ho hd hcd hmg hobj hints hlen hg => ?_
  obtain ⟨K, fd, sp, KX, hb, hsp, hF⟩ := F w mg fa _ Y G.T.g hmg
  exact law_call KX G.T.g G.T.b G.T.builtins G.T.nolimit hg hobj hints (Nat.le_trans hlen hn2) hr hF hb (fun H hO hS => hsp H a ns hlen hO hS) fun H e s' => cx_no
end Mi
namespace Mi
@[reducible] def n_LETTERS : Nat := 0
@[reducible] def n_FIGURES : Nat := 1
@[reducible] def n_mark_of : Nat := 2
@[reducible] def n_MOST_DEEP : Nat := 3
@[reducible] def n_marks_of : Nat := 4
@[reducible] def n_CITES : Nat := 5
@[reducible] def n_MOST_WORD : Nat := 6
@[reducible] def n_is_part : Nat := 7
@[reducible] def n_words_of_text : Nat := 8
@[reducible] def n_BOOK : Nat := 9
@[reducible] def n_written : Nat := 10
@[reducible] def n_MOST_FIGURES : Nat := 11
@[reducible] def n_number_of : Nat := 12
@[reducible] def n_parts_from : Nat := 13
@[reducible] def n_label_from : Nat := 14
@[reducible] def n_SIZES : Nat := 15
@[reducible] def n_deed_of : Nat := 16
@[reducible] def n_MOST_DEEDS : Nat := 17
@[reducible] def n_BadText : Nat := 18
@[reducible] def n_read : Nat := 19
@[reducible] def n__law_start : Nat := 20
@[reducible] def n__law_drawn : Nat := 21
@[reducible] def n__law_same : Nat := 22
@[reducible] def n__law_any : Nat := 23
@[reducible] def n__law_words : Nat := 24
@[reducible] def n_law : Nat := 25
@[reducible] def n_CiteError : Nat := 26
@[reducible] def n_row : Nat := 27
def d_mark_of : List S := [.asg (.v 1) (.ite (.cmp .inn (.slc (.v 0) (some (.neg (.c (.int 1)))) none) (.g n_LETTERS)) (.slc (.v 0) (some (.neg (.c (.int 1)))) none) (.c (.str []))), .asg (.v 2) (.slc (.v 0) none (some (.bin .sub (.fn .len [.v 0]) (.fn .len [.v 1])))), .if_ (.or (.not (.chain .le .le (.c (.int 1)) (.fn .len [.v 2]) (.c (.int 2)))) (.cmp .ne (.lc [3] [3] .of [.v 2] (some (.cmp .nin (.v 3) (.g n_FIGURES))) (.v 3)) (.lst []))) [.ret (.c (.non))] [], .if_ (.or (.and (.cmp .gt (.fn .len [.v 2]) (.c (.int 1))) (.cmp .eq (.idx (.v 2) (.c (.int 0))) (.c (.str [48])))) (.and (.cmp .eq (.v 2) (.c (.str [48]))) (.cmp .eq (.v 1) (.c (.str []))))) [.ret (.c (.non))] [], .retT [.fn .int [.v 2], .v 1]]

def d_marks_of : List S := [.if_ (.or (.not (.isi (.v 0) [.str])) (.cmp .eq (.v 0) (.c (.str [])))) [.ret (.c (.non))] [], .asg (.v 1) (.lc [2] [2] .of [.mt (.v 0) .split [.c (.str [46])]] none (.call n_mark_of [.v 2])), .ret (.ite (.or (.cmp .inn (.c (.non)) (.v 1)) (.cmp .gt (.fn .len [.v 1]) (.g n_MOST_DEEP))) (.c (.non)) (.fn .tuple [.v 1]))]

def d_is_part : List S := [.if_ (.isi (.v 0) [.tuple]) [.ret (.and (.cmp .eq (.fn .len [.v 0]) (.c (.int 2))) (.and (.cmp .inn (.idx (.v 0) (.c (.int 0))) (.g n_CITES)) (.cmp .notn (.call n_marks_of [.idx (.v 0) (.c (.int 1))]) (.c (.non)))))] [], .if_ (.or (.not (.isi (.v 0) [.str])) (.or (.not (.chain .le .le (.c (.int 1)) (.fn .len [.v 0]) (.g n_MOST_WORD))) (.cmp .inn (.v 0) (.g n_CITES)))) [.ret (.c (.bl false))] [], .ret (.cmp .eq (.lc [1] [1] .of [.v 0] (some (.cmp .nin (.v 1) (.g n_LETTERS))) (.v 1)) (.lst []))]

def d_words_of_text : List S := [.asg (.v 1) (.lst []), .for_ [2] .of [.v 0] [.mut 1 .extend [.ite (.isi (.v 2) [.tuple]) (.fn .list [.v 2]) (.lst [.v 2])]], .ret (.v 1)]

def d_written : List S := [.asg (.v 1) (.lst []), .for_ [2, 3] .of [.v 0] [.asg (.v 4) (.lst [.fn .str [.v 2], .idx (.v 3) (.c (.int 0)), .ite (.cmp .ne (.idx (.v 3) (.c (.int 1))) (.c (.str []))) (.idx (.v 3) (.c (.int 1))) (.g n_BOOK)]), .if_ (.cmp .eq (.idx (.v 3) (.c (.int 0))) (.c (.str [105, 110, 115, 101, 114, 116]))) [.asg (.v 4) (.bin .add (.bin .add (.v 4) (.lst [.fn .str [.idx (.v 3) (.c (.int 2))]])) (.call n_words_of_text [.idx (.v 3) (.c (.int 3))]))] [], .if_ (.cmp .eq (.idx (.v 3) (.c (.int 0))) (.c (.str [109, 111, 118, 101]))) [.asg (.v 4) (.bin .add (.v 4) (.lst [.ite (.cmp .ne (.idx (.v 3) (.c (.int 2))) (.c (.str []))) (.idx (.v 3) (.c (.int 2))) (.g n_BOOK), .fn .str [.idx (.v 3) (.c (.int 3))]]))] [], .if_ (.cmp .eq (.idx (.v 3) (.c (.int 0))) (.c (.str [116, 101, 120, 116]))) [.asg (.v 4) (.bin .add (.v 4) (.call n_words_of_text [.idx (.v 3) (.c (.int 2))]))] [], .mut 1 .append [.mt (.c (.str [32])) .join [.v 4]]], .ret (.mt (.c (.str [10])) .join [.v 1])]

def d_number_of : List S := [.if_ (.or (.not (.chain .le .le (.c (.int 1)) (.fn .len [.v 0]) (.g n_MOST_FIGURES))) (.cmp .ne (.lc [1] [1] .of [.v 0] (some (.cmp .nin (.v 1) (.g n_FIGURES))) (.v 1)) (.lst []))) [.ret (.c (.non))] [], .ret (.ite (.or (.cmp .eq (.v 0) (.c (.str [48]))) (.cmp .ne (.idx (.v 0) (.c (.int 0))) (.c (.str [48])))) (.fn .int [.v 0]) (.c (.non)))]

def d_parts_from : List S := [.asg (.v 1) (.lst []), .asg (.v 2) (.v 0), .while_ (.cmp .ne (.v 2) (.lst [])) [.asg (.v 3) (.idx (.v 2) (.c (.int 0))), .if_ (.cmp .inn (.v 3) (.tup [.c (.str [97, 115]), .c (.str [115, 101, 101])])) [.asg (.v 3) (.ite (.cmp .gt (.fn .len [.v 2]) (.c (.int 1))) (.tup [.v 3, .idx (.v 2) (.c (.int 1))]) (.tup [])), .asg (.v 2) (.slc (.v 2) (some (.c (.int 1))) none)] [], .if_ (.not (.call n_is_part [.v 3])) [.ret (.c (.non))] [], .mut 1 .append [.v 3], .asg (.v 2) (.slc (.v 2) (some (.c (.int 1))) none)], .ret (.fn .tuple [.v 1])]

def d_label_from : List S := [.if_ (.and (.cmp .eq (.v 0) (.g n_BOOK)) (.v 1)) [.ret (.c (.str []))] [], .ret (.ite (.cmp .notn (.call n_marks_of [.v 0]) (.c (.non))) (.v 0) (.c (.non)))]

def d_deed_of : List S := [.if_ (.or (.cmp .lt (.fn .len [.v 0]) (.c (.int 3))) (.or (.cmp .nin (.idx (.v 0) (.c (.int 1))) (.g n_SIZES)) (.cmp .lt (.fn .len [.v 0]) (.idx (.g n_SIZES) (.idx (.v 0) (.c (.int 1))))))) [.ret (.c (.non))] [], .asgs [.v 1, .v 2] [.call n_number_of [.idx (.v 0) (.c (.int 0))], .idx (.v 0) (.c (.int 1))], .asg (.v 3) (.call n_label_from [.idx (.v 0) (.c (.int 2)), .cmp .inn (.v 2) (.tup [.c (.str [105, 110, 115, 101, 114, 116]), .c (.str [99, 111, 117, 110, 116])])]), .if_ (.or (.cmp .isn (.v 1) (.c (.non))) (.cmp .isn (.v 3) (.c (.non)))) [.ret (.c (.non))] [], .if_ (.cmp .inn (.v 2) (.tup [.c (.str [115, 116, 114, 105, 107, 101]), .c (.str [99, 111, 117, 110, 116])])) [.ret (.ite (.cmp .eq (.fn .len [.v 0]) (.c (.int 3))) (.tup [.v 1, .tup [.v 2, .v 3]]) (.c (.non)))] [], .if_ (.cmp .eq (.v 2) (.c (.str [109, 111, 118, 101]))) [.asgs [.v 4, .v 5] [.call n_label_from [.idx (.v 0) (.c (.int 3)), .c (.bl true)], .call n_number_of [.idx (.v 0) (.c (.int 4))]], .if_ (.or (.cmp .ne (.fn .len [.v 0]) (.c (.int 5))) (.or (.cmp .isn (.v 4) (.c (.non))) (.cmp .isn (.v 5) (.c (.non))))) [.ret (.c (.non))] [], .retT [.v 1, .tup [.v 2, .v 3, .v 4, .v 5]]] [], .if_ (.cmp .eq (.v 2) (.c (.str [105, 110, 115, 101, 114, 116]))) [.asgs [.v 5, .v 6] [.call n_number_of [.idx (.v 0) (.c (.int 3))], .call n_parts_from [.slc (.v 0) (some (.c (.int 4))) none]], .ret (.ite (.or (.cmp .isn (.v 5) (.c (.non))) (.cmp .isn (.v 6) (.c (.non)))) (.c (.non)) (.tup [.v 1, .tup [.v 2, .v 3, .v 5, .v 6]]))] [], .asg (.v 6) (.call n_parts_from [.slc (.v 0) (some (.c (.int 3))) none]), .ret (.ite (.cmp .isn (.v 6) (.c (.non))) (.c (.non)) (.tup [.v 1, .tup [.v 2, .v 3, .v 6]]))]

def d_read : List S := [.asg (.v 1) (.lst []), .for_ [2, 3] .enm [.ite (.cmp .ne (.v 0) (.c (.str []))) (.mt (.v 0) .split [.c (.str [10])]) (.lst [])] [.asg (.v 4) (.call n_deed_of [.mt (.v 3) .split [.c (.str [32])]]), .if_ (.or (.cmp .isn (.v 4) (.c (.non))) (.cmp .eq (.v 2) (.g n_MOST_DEEDS))) [.raise n_BadText (some (.v 2))] [], .mut 1 .append [.v 4]], .ret (.v 1)]

def d__law_start : List S := [.asg (.v 1) (.c (.int 1)), .for_ [2] .of [.v 0] [.asg (.v 1) (.bin .mod (.bin .add (.bin .add (.bin .mul (.v 1) (.c (.int 48271))) (.v 2)) (.c (.int 7))) (.c (.int 2147483647)))], .ret (.lst [.v 0, .c (.int 0), .v 1, .c (.int 0)])]

def d__law_drawn : List S := [.if_ (.cmp .gt (.idx (.v 0) (.c (.int 3))) (.c (.int 0))) [.asg (.v 2) (.bin .mod (.idx (.v 0) (.c (.int 3))) (.v 1)), .asg (.sub (.v 0) (.c (.int 3))) (.bin .fdiv (.idx (.v 0) (.c (.int 3))) (.v 1)), .ret (.v 2)] [], .asg (.sub (.v 0) (.c (.int 1))) (.bin .add (.idx (.v 0) (.c (.int 1))) (.c (.int 1))), .if_ (.cmp .le (.idx (.v 0) (.c (.int 1))) (.fn .len [.idx (.v 0) (.c (.int 0))])) [.asg (.v 3) (.idx (.idx (.v 0) (.c (.int 0))) (.bin .sub (.idx (.v 0) (.c (.int 1))) (.c (.int 1)))), .asg (.sub (.v 0) (.c (.int 3))) (.ite (.cmp .ge (.v 3) (.bin .pow (.c (.int 10)) (.c (.int 18)))) (.bin .fdiv (.v 3) (.v 1)) (.c (.int 0))), .ret (.bin .mod (.v 3) (.v 1))] [], .asg (.sub (.v 0) (.c (.int 2))) (.bin .mod (.bin .add (.bin .mul (.idx (.v 0) (.c (.int 2))) (.c (.int 48271))) (.c (.int 11))) (.c (.int 2147483647))), .ret (.bin .mod (.bin .fdiv (.idx (.v 0) (.c (.int 2))) (.c (.int 7))) (.v 1))]

def d__law_same : List S := [.if_ (.isi (.v 1) [.tuple, .list]) [.if_ (.or (.not (.isi (.v 0) [.tuple, .list])) (.cmp .ne (.isi (.v 0) [.list]) (.isi (.v 1) [.list]))) [.ret (.c (.bl false))] [], .if_ (.cmp .ne (.fn .len [.v 0]) (.fn .len [.v 1])) [.ret (.c (.bl false))] [], .ret (.cmp .eq (.lc [2] [2] .rng [.fn .len [.v 1]] (some (.not (.call n__law_same [.idx (.v 0) (.v 2), .idx (.v 1) (.v 2)]))) (.v 2)) (.lst []))] [], .if_ (.cmp .isn (.v 1) (.c (.non))) [.ret (.cmp .isn (.v 0) (.c (.non)))] [], .if_ (.isi (.v 1) [.str]) [.ret (.and (.isi (.v 0) [.str]) (.cmp .eq (.v 0) (.v 1)))] [], .if_ (.or (.isi (.v 1) [.bool]) (.isi (.v 0) [.bool])) [.ret (.and (.isi (.v 1) [.bool]) (.and (.isi (.v 0) [.bool]) (.cmp .eq (.v 0) (.v 1))))] [], .ret (.and (.isi (.v 0) [.int]) (.cmp .eq (.v 0) (.v 1)))]

def d__law_any : List S := [.asg (.v 1) (.lst [.c (.str [49]), .c (.str [50, 46, 51]), .c (.str [48, 97]), .c (.str [49, 50, 98, 46, 49]), .c (.str [57, 57, 122, 46, 57, 57, 122, 46, 57, 57, 122, 46, 57, 57, 122]), .c (.str [51, 46, 48, 99, 46, 55])]), .asgs [.v 2, .v 3] [.idx (.v 1) (.call n__law_drawn [.v 0, .c (.int 6)]), .idx (.bin .add (.v 1) (.lst [.c (.str [])])) (.call n__law_drawn [.v 0, .c (.int 7)])], .asgs [.v 4, .v 5] [.lst [.call n__law_drawn [.v 0, .c (.int 10)], .call n__law_drawn [.v 0, .c (.int 1000)]], .lst [.call n__law_drawn [.v 0, .c (.int 10)], .call n__law_drawn [.v 0, .c (.int 1000)]]], .asgs [.v 4, .v 5] [.idx (.v 4) (.call n__law_drawn [.v 0, .c (.int 2)]), .idx (.v 5) (.call n__law_drawn [.v 0, .c (.int 2)])], .asg (.v 6) (.lst []), .for_ [7] .rng [.call n__law_drawn [.v 0, .c (.int 11)]] [.asg (.v 8) (.tup [.idx (.lst [.c (.str [97, 115]), .c (.str [115, 101, 101])]) (.call n__law_drawn [.v 0, .c (.int 2)]), .idx (.v 1) (.call n__law_drawn [.v 0, .c (.int 6)])]), .mut 6 .append [.idx (.lst [.v 8, .c (.str [97, 115, 105, 115]), .c (.str [98, 111, 111, 107]), .c (.str [105, 110, 115, 101, 114, 116]), .c (.str [122]), .c (.str [97, 98, 99, 100, 101, 102, 103, 104, 105, 106, 107, 108, 109, 110, 111, 112, 113, 114, 115, 116])]) (.call n__law_drawn [.v 0, .c (.int 6)])]], .asg (.v 9) (.lst [.tup [.c (.str [105, 110, 115, 101, 114, 116]), .v 3, .v 5, .fn .tuple [.v 6]], .tup [.c (.str [115, 116, 114, 105, 107, 101]), .v 2], .tup [.c (.str [109, 111, 118, 101]), .v 2, .v 3, .v 5], .tup [.c (.str [99, 111, 117, 110, 116]), .v 3]]), .retT [.v 4, .idx (.bin .add (.v 9) (.lst [.tup [.c (.str [116, 101, 120, 116]), .v 2, .fn .tuple [.v 6]]])) (.call n__law_drawn [.v 0, .c (.int 5)])]]

def d__law_words : List S := [.asg (.v 1) (.lst [.idx (.v 0) (.c (.int 0))]), .for_ [2] .of [.slc (.v 0) (some (.c (.int 1))) none] [.if_ (.isi (.v 2) [.tuple]) [.for_ [3] .of [.v 2] [.asg (.v 1) (.bin .add (.v 1) (.ite (.isi (.v 3) [.tuple]) (.fn .list [.v 3]) (.lst [.v 3])))]] [.mut 1 .append [.ite (.cmp .eq (.v 2) (.c (.str []))) (.c (.str [98, 111, 111, 107])) (.fn .str [.v 2])]]], .ret (.v 1)]

def d_law : List S := [.asg (.vb 1) (.call n__law_start [.v 0]), .for_ [2] .rng [.c (.int 5)] [.asg (.v 3) (.lc [6] [6] .rng [.call n__law_drawn [.v 1, .c (.int 21)]] none (.call n__law_any [.v 1])), .asg (.v 4) (.mt (.c (.str [10])) .join [.lc [7, 8] [7, 8] .of [.v 3] none (.mt (.c (.str [32])) .join [.bin .add (.lst [.fn .str [.v 7]]) (.call n__law_words [.v 8])])]), .asg (.v 5) (.fn .list [.v 3]), .if_ (.or (.not (.call n__law_same [.call n_written [.v 5], .v 4])) (.or (.cmp .ne (.v 5) (.v 3)) (.not (.call n__law_same [.call n_read [.v 4], .v 3])))) [.ret (.c (.bl false))] [], .ex (.mt (.call n_read [.v 4]) .append [.c (.int 0)])], .ret (.and (.cmp .eq (.call n_read [.c (.str [])]) (.lst [])) (.cmp .eq (.call n_written [.lst []]) (.c (.str []))))]

def tFn : List (Nat × Fd) := [(n_mark_of, ⟨1, 4, d_mark_of⟩), (n_marks_of, ⟨1, 3, d_marks_of⟩), (n_is_part, ⟨1, 2, d_is_part⟩), (n_words_of_text, ⟨1, 3, d_words_of_text⟩), (n_written, ⟨1, 5, d_written⟩), (n_number_of, ⟨1, 2, d_number_of⟩), (n_parts_from, ⟨1, 4, d_parts_from⟩), (n_label_from, ⟨2, 2, d_label_from⟩), (n_deed_of, ⟨1, 7, d_deed_of⟩), (n_read, ⟨1, 5, d_read⟩), (n__law_start, ⟨1, 3, d__law_start⟩), (n__law_drawn, ⟨2, 4, d__law_drawn⟩), (n__law_same, ⟨2, 3, d__law_same⟩), (n__law_any, ⟨1, 10, d__law_any⟩), (n__law_words, ⟨1, 4, d__law_words⟩), (n_law, ⟨1, 9, d_law⟩)]
def tMe : List ((Nat × Nat) × Nat) := []
def tIni : List (Nat × Nat) := []
def tSup : List (Nat × Nat) := [(n_CiteError, n_CiteError), (n_BadText, n_BadText), (n_BadText, n_CiteError)]
def tFe : List (Nat × Nat) := [(n_BadText, n_row)]
def tGl : List (Nat × R) := [(n_MOST_DEEP, .val (.int 4)), (n_MOST_WORD, .val (.int 20)), (n_LETTERS, .val (.str [97, 98, 99, 100, 101, 102, 103, 104, 105, 106, 107, 108, 109, 110, 111, 112, 113, 114, 115, 116, 117, 118, 119, 120, 121, 122])), (n_FIGURES, .val (.str [48, 49, 50, 51, 52, 53, 54, 55, 56, 57])), (n_CITES, .val (.tup [.str [97, 115], .str [115, 101, 101]])), (n_MOST_DEEDS, .val (.int 200)), (n_MOST_FIGURES, .val (.int 3)), (n_BOOK, .val (.str [98, 111, 111, 107])), (n_SIZES, .obj .top (.dct [(.str [105, 110, 115, 101, 114, 116], .int 4), (.str [115, 116, 114, 105, 107, 101], .int 3), (.str [109, 111, 118, 101], .int 5), (.str [116, 101, 120, 116], .int 3), (.str [99, 111, 117, 110, 116], .int 3)]))]
def P : Pg := ⟨fun f => tFn.lookup f, fun k => tGl.lookup k, fun c m => tMe.lookup (c, m), fun c => tIni.lookup c, fun a b => (a, b) ∈ tSup, fun c f => (c, f) ∈ tFe⟩
end Mi
/-! running Mini by simp -/
namespace Mi
section
variable {α β : Type} {a b c : E} {σ : Sl} {G : Gp} {w : Wd} {es : List E}
@[simp] theorem bind_ok (x : α) (G : Gp) (f : α → Gp → EO β) : EO.bind (.ok x G) f = f x G := rfl
@[simp] theorem bind_exc (k : Nat) (x : W) (G : Gp) (f : α → Gp → EO β) : EO.bind (.exc k x G : EO α) f = .exc k x G := rfl
@[simp] theorem so_ok (x : α) (G : Gp) (σ : Sl) (f : α → Gp → SO) : EO.so (.ok x G) σ f = f x G := rfl
@[simp] theorem so_exc (k : Nat) (x : W) (G : Gp) (σ : Sl) (f : α → Gp → SO) : EO.so (.exc k x G : EO α) σ f = .exc k x σ G := rfl
@[simp] theorem calm_okE (x : α) (G : Gp) : EO.calm (.ok x G) = .ok x G := rfl
@[simp] theorem then_nx (σ : Sl) (G : Gp) (f : Sl → Gp → SO) : SO.then (.nx σ G) f = f σ G := rfl
@[simp] theorem then_ret (r : R) (G : Gp) (f : Sl → Gp → SO) : SO.then (.ret r G) f = .ret r G := rfl
@[simp] theorem then_exc (k : Nat) (x : W) (σ : Sl) (G : Gp) (f : Sl → Gp → SO) : SO.then (.exc k x σ G) f = .exc k x σ G := rfl
@[simp] theorem fo_nx (σ : Sl) (G : Gp) : SO.fo (.nx σ G) = .ok (.val .non) G := rfl
@[simp] theorem fo_ret (r : R) (G : Gp) : SO.fo (.ret r G) = .ok r G := rfl
@[simp] theorem fo_exc (k : Nat) (x : W) (σ : Sl) (G : Gp) : SO.fo (.exc k x σ G) = .exc k x G := rfl
@[simp] theorem eo_ok (r : R) (G : Gp) : FO.eo (.ok r G) = .ok r G := rfl
@[simp] theorem eo_exc (k : Nat) (x : W) (G : Gp) : FO.eo (.exc k x G) = .exc k x G := rfl
@[simp] theorem opt_some (x : α) (G : Gp) : opt (some x) G = .ok x G := rfl
@[simp] theorem boolR_some (b : Bool) (G : Gp) : boolR (some b) G = .ok (.val (.bl b)) G := rfl
@[simp] theorem condL_bl (b : Bool) : condL (.val (.bl b)) = some b := rfl
@[simp] theorem ifL_ok (b : Bool) (G : Gp) (σ : Sl) (x y : Gp → SO) : ifL (.ok b G) σ x y = if b then x G else y G := rfl
@[simp] theorem ev_c (k : W) : ev w (.c k) σ G = .ok (.val k) G := rfl
@[simp] theorem ev_v (i : Nat) : ev w (.v i) σ G = opt (getS σ i) G := rfl
@[simp] theorem ev_g (k : Nat) : ev w (.g k) σ G = opt (w.gl k) G := rfl
@[simp] theorem ev_bin (op : Bop) : ev w (.bin op a b) σ G = (ev w a σ G).bind fun x G => (ev w b σ G).bind fun y G => opt (binR op G x y) G := rfl
@[simp] theorem ev_neg : ev w (.neg a) σ G = (ev w a σ G).bind fun x G => negR x G := rfl
@[simp] theorem ev_cmp (op : Cop) : ev w (.cmp op a b) σ G = (ev w a σ G).bind fun x G => (ev w b σ G).bind fun y G => boolR (cmpR op G x y) G := rfl
@[simp] theorem ev_chain (o1 o2 : Cop) : ev w (.chain o1 o2 a b c) σ G = (ev w a σ G).bind fun x G => (ev w b σ G).bind fun y G => (opt (cmpR o1 G x y) G).bind fun k G =>
    if k then (ev w c σ G).bind fun z G => boolR (cmpR o2 G y z) G else .ok (.val (.bl false)) G := rfl
@[simp] theorem ev_and : ev w (.and a b) σ G = (ev w a σ G).bind fun x G => (opt (condL x) G).bind fun k G => if k then ev w b σ G else .ok (.val (.bl false)) G := rfl
@[simp] theorem ev_or : ev w (.or a b) σ G = (ev w a σ G).bind fun x G => (opt (condL x) G).bind fun k G => if k then .ok (.val (.bl true)) G else ev w b σ G := rfl
@[simp] theorem ev_not : ev w (.not a) σ G = (ev w a σ G).bind fun x G => (opt (condL x) G).bind fun k G => .ok (.val (.bl (!k))) G := rfl
@[simp] theorem ev_ite : ev w (.ite c a b) σ G = (ev w c σ G).bind fun x G => (opt (condL x) G).bind fun k G => if k then ev w a σ G else ev w b σ G := rfl
@[simp] theorem ev_lst : ev w (.lst es) σ G = (evW w es σ G).bind fun xs G => lstR xs G := rfl
@[simp] theorem ev_tup : ev w (.tup es) σ G = (evW w es σ G).bind fun xs G => tupR xs G := rfl
@[simp] theorem ev_dct : ev w (.dct es) σ G = (evW w es σ G).bind fun ps G => dctR (pairUp ps) G := rfl
@[simp] theorem ev_idx : ev w (.idx a b) σ G = (ev w a σ G).bind fun x G => (ev w b σ G).bind fun i G => opt ((idxR G x i).map .val) G := rfl
@[simp] theorem ev_slc (lo hi : Option E) : ev w (.slc a lo hi) σ G = (ev w a σ G).bind fun x G => (evO w lo σ G).bind fun l G => (evO w hi σ G).bind fun h G => opt (slcR G x l h) G := rfl
@[simp] theorem ev_rev : ev w (.rev a) σ G = (ev w a σ G).bind fun x G => revR x G := rfl
@[simp] theorem ev_fld (f : Nat) : ev w (.fld a f) σ G = (ev w a σ G).bind fun x G => fldR w.fe f x G := rfl
@[simp] theorem ev_call (f : Nat) : ev w (.call f es) σ G = (evs w es σ G).bind fun xs G => callR (w.cf f) xs G := rfl
@[simp] theorem ev_meth (m : Nat) : ev w (.meth a m es) σ G = (ev w a σ G).bind fun x G => (insOf x G).bind fun pc G => (evs w es σ G).bind fun xs G => methR w pc.1 pc.2 m xs G := rfl
@[simp] theorem ev_new (m : Nat) : ev w (.new m es) σ G = (evs w es σ G).bind fun xs G => newR w m xs G := rfl
@[simp] theorem ev_isi (ts : List Ty) : ev w (.isi a ts) σ G = (ev w a σ G).bind fun x G => boolR (isisR w.sup G x ts) G := rfl
@[simp] theorem ev_fn (f : Fb) : ev w (.fn f es) σ G = (evs w es σ G).bind fun xs G => opt (fnR f G xs) G := rfl
@[simp] theorem ev_mt (m : Mb) : ev w (.mt a m es) σ G = (ev w a σ G).bind fun x G => (opt (kindR G x) G).bind fun k G => (evs w es σ G).bind fun ys G => mtE k x m ys G := rfl
@[simp] theorem ev_lc (own tg : List Nat) (ik : Ik) (src : List E) (cond : Option E) (elt : E) : ev w (.lc own tg ik src cond elt) σ G = (evs w src σ G).bind fun xs G => if lockS src G ik xs then lcR own tg ik (evC w cond) (ev w elt) σ xs G else .bad := rfl
@[simp] theorem evs_nil : evs w [] σ G = .ok [] G := rfl
@[simp] theorem evs_cons : evs w (a :: es) σ G = (ev w a σ G).bind fun x G => (evs w es σ G).bind fun xs G => .ok (x :: xs) G := rfl
@[simp] theorem evW_nil : evW w [] σ G = .ok [] G := rfl
@[simp] theorem evW_cons : evW w (a :: es) σ G = (ev w a σ G).bind fun x G => (toW x G).bind fun x G => (evW w es σ G).bind fun xs G => .ok (x :: xs) G := rfl
@[simp] theorem evO_none : evO w none σ G = .ok none G := rfl
@[simp] theorem evO_some : evO w (some a) σ G = (ev w a σ G).bind fun x G => .ok (some x) G := rfl
@[simp] theorem evC_none : evC w none σ G = .ok true G := rfl
@[simp] theorem evC_some : evC w (some a) σ G = (ev w a σ G).bind fun x G => opt (condL x) G := rfl
@[simp] theorem toW_val (x : W) : toW (.val x) G = .ok x G := rfl
@[simp] theorem toW_own (o : O) : toW (.obj .own o) G = .ok (.ref G.length) (G ++ [.obj o]) := rfl
@[simp] theorem mtE_def (k : Kn) (x : R) (m : Mb) (ys : List R) (h : changes m = false) : mtE k x m ys G = if kindR G x ≠ some k then .bad else opt (mtR G x m ys) G := by
  unfold mtE; rw [if_neg (by rw [h]; decide : ¬ changes m = true)]
@[simp] theorem execs_nil : execs w [] σ G = .nx σ G := rfl
@[simp] theorem execs_cons (s : S) (r : List S) : execs w (s :: r) σ G = (exec w s σ G).then (execs w r) := rfl
variable (t : T) (e : E) (p : List S) (q : List S)
@[simp] theorem exec_asg : exec w (.asg t e) σ G = asgR w t e σ G := rfl
@[simp] theorem exec_asgT (ts : List T) : exec w (.asgT ts e) σ G = (ev w e σ G).so σ fun r G => match seqOf G r with
    | some xs => stWs w ts xs σ G
    | none => .bad := rfl
@[simp] theorem exec_asgs (ts : List T) : exec w (.asgs ts es) σ G = (evs w es σ G).so σ fun rs G => if noBrw rs then stRs w ts rs σ G else .bad := rfl
@[simp] theorem exec_ex : exec w (.ex e) σ G = (ev w e σ G).so σ fun _ G => .nx σ G := rfl
@[simp] theorem exec_mut (i : Nat) (m : Mb) : exec w (.mut i m es) σ G = mutR w i m es σ G := rfl
@[simp] theorem exec_ret : exec w (.ret e) σ G = retE w e σ G := rfl
@[simp] theorem exec_retT : exec w (.retT es) σ G = (evMs w es σ G).so σ fun p G => .ret (.val (.tup p.1)) G := rfl
@[simp] theorem exec_if : exec w (.if_ c p q) σ G = ifL (evC w (some c) σ G) σ (execs w p σ) (execs w q σ) := rfl
@[simp] theorem exec_for (tg : List Nat) (ik : Ik) (src : List E) : exec w (.for_ tg ik src p) σ G = (evs w src σ G).so σ fun xs G => if lockS src G ik xs then forR ik tg (execs w p) xs σ G else .bad := rfl
@[simp] theorem exec_while : exec w (.while_ c p) σ G = whileL (evC w (some c)) (execs w p) turns σ G := rfl
@[simp] theorem exec_raise (k : Nat) (eo : Option E) : exec w (.raise k eo) σ G = excR w eo σ G k := rfl
@[simp] theorem exec_try (k : Nat) (nm : Option Nat) : exec w (.try_ p k nm q) σ G = tryL w (execs w p σ G) k nm (execs w q) := rfl
@[simp] theorem exec_pass : exec w .pass σ G = .nx σ G := rfl
@[simp] theorem asgR_v (i : Nat) : asgR w (.v i) e σ G = (evA w e σ G).so σ fun p G => .nx (p.2.set i (some p.1)) G := rfl
@[simp] theorem asgR_vb (i : Nat) : asgR w (.vb i) e σ G = (evM w e σ G).so σ fun p G => stW w (.vb i) p.1 p.2 G := rfl
@[simp] theorem asgR_sub (x i : E) : asgR w (.sub x i) e σ G = (evM w e σ G).so σ fun p G => stW w (.sub x i) p.1 p.2 G := rfl
@[simp] theorem asgR_fld (x : E) (f : Nat) : asgR w (.fld x f) e σ G = (evM w e σ G).so σ fun p G => stW w (.fld x f) p.1 p.2 G := rfl
@[simp] theorem evA_def : evA w e σ G = (ev w e σ G).bind fun r G => takA r σ G := rfl
@[simp] theorem evM_def : evM w e σ G = (ev w e σ G).bind fun r G => takM r σ G := rfl
@[simp] theorem evMs_nil : evMs w [] σ G = .ok ([], σ) G := rfl
@[simp] theorem evMs_cons : evMs w (e :: es) σ G = (evM w e σ G).bind fun p G => (evMs w es p.2 G).calm.bind fun q G => .ok (p.1 :: q.1, q.2) G := rfl
@[simp] theorem takA_val (x : W) : takA (.val x) σ G = .ok (.val x, σ) G := rfl
@[simp] theorem takA_own (o : O) : takA (.obj .own o) σ G = .ok (.obj .own o, σ) G := rfl
@[simp] theorem takA_frz (o : O) : takA (.obj .frz o) σ G = .ok (.obj .frz o, σ) G := rfl
@[simp] theorem takA_brw (i : Nat) (o : O) : takA (.obj (.brw i) o) σ G = .ok (.obj .frz o, σ.set i (some (.obj .frz o))) G := rfl
@[simp] theorem takM_val (x : W) : takM (.val x) σ G = .ok (x, σ) G := rfl
@[simp] theorem takM_own (o : O) : takM (.obj .own o) σ G = .ok (.ref G.length, σ) (G ++ [.obj o]) := rfl
@[simp] theorem takM_brw (i : Nat) (o : O) : takM (.obj (.brw i) o) σ G = .ok (.ref G.length, σ.set i (some (.val (.ref G.length)))) (G ++ [.obj o]) := rfl
@[simp] theorem retE_def : retE w e σ G = (ev w e σ G).so σ fun r G => match r with
  | .obj (.brw _) o => .ret (.obj .own o) G
  | .obj .own o => .ret (.obj .own o) G
  | .val x => .ret (.val x) G
  | _ => .bad := rfl
end
/-- what stands around a def at a depth -/
def lvl (P : Pg) : Nat → Wd
  | 0 => P.wd (fun _ _ _ => .bad) (fun _ _ _ => .bad)
  | d + 1 => P.wd (run P (d + 1)) (run P d)
theorem run_succ (P : Pg) (d f : Nat) (rs : List R) (G : Gp) : run P (d + 1) f rs G = runF P (lvl P d) f rs G := by
  cases d with
  | zero => rw [run]; rfl
  | succ d => rw [run]; rfl
@[simp] theorem lvl_gl (P : Pg) (d : Nat) : (lvl P d).gl = P.gl := by cases d <;> rfl
@[simp] theorem lvl_sup (P : Pg) (d : Nat) : (lvl P d).sup = P.sup := by cases d <;> rfl
@[simp] theorem lvl_fe (P : Pg) (d : Nat) : (lvl P d).fe = P.fe := by cases d <;> rfl
@[simp] theorem lvl_me (P : Pg) (d : Nat) : (lvl P d).me = P.me := by cases d <;> rfl
@[simp] theorem lvl_ini (P : Pg) (d : Nat) : (lvl P d).ini = P.ini := by cases d <;> rfl
@[simp] theorem lvl_cf (P : Pg) (d : Nat) : (lvl P d).cf = run P d := by
  cases d with
  | zero => funext f rs G; rw [run]; rfl
  | succ d => rfl
@[simp] theorem lvl_cn (P : Pg) (d : Nat) : (lvl P (d + 1)).cn = run P d := rfl
theorem run_body {P : Pg} {d f : Nat} {F : Fd} {rs : List R} {G : Gp} (hF : P.fn f = some F) (hl : rs.length = F.np) : run P (d + 1) f rs G = (execs (lvl P d) F.body (startS F.ns rs) G).fo := by
  rw [run_succ]; unfold runF; rw [hF]; dsimp only; rw [if_pos hl]
end Mi
namespace Mi
theorem lcL_pure {chk : Gp → Bool} {step : W → Gp → EO (Option W)} {G : Gp} (hc : chk G = true) (f : W → Option W) : ∀ (its : List W), (∀ x ∈ its, step x G = .ok (f x) G) → lcL chk step its G = .ok (its.filterMap f) G
  | [], _ => by rw [lcL, if_pos hc]; rfl
  | x :: xs, h => by
    rw [lcL, if_pos hc, h x List.mem_cons_self]
    show (lcL chk step xs G).bind _ = _
    rw [lcL_pure hc f xs fun y hy => h y (List.mem_cons_of_mem _ hy)]
    cases hx : f x with
    | none => simp [hx]
    | some y => simp [hx]
theorem lcR_pure {own tg : List Nat} {ik : Ik} {fc : Sl → Gp → EO Bool} {fe : Sl → Gp → EO R} {σ : Sl} {xs : List R} {G : Gp} {its : List W} (f : W → Option W) (hw : walk G ik xs = some its) (hl : lockOf G ik xs = none)
    (h : ∀ x ∈ its, lcStep own tg fc fe σ x G = .ok (f x) G) (hz : its.length < sizeL) : lcR own tg ik fc fe σ xs G = .ok (.obj .own (.lst (its.filterMap f))) G := by
  unfold lcR
  rw [hw]
  dsimp only
  rw [hl]
  show (lcL _ _ its G).bind _ = _
  rw [lcL_pure (by simp [chkW, hw]) f its fun x hx => by simp [h x hx]]
  show (if (its.filterMap f).length < sizeL then _ else _) = _
  rw [if_pos (Nat.lt_of_le_of_lt (List.length_filterMap_le _ _) hz)]
  rfl
@[simp] theorem walk_str (G : Gp) (s : Tx) : walk G .of [.val (.str s)] = some (s.map fun c => .str [c]) := rfl
@[simp] theorem walk_tup (G : Gp) (s : List W) : walk G .of [.val (.tup s)] = some s := rfl
@[simp] theorem walk_obj (G : Gp) (k : Kd) (s : List W) : walk G .of [.obj k (.lst s)] = some s := rfl
@[simp] theorem lock_str (G : Gp) (s : Tx) : lockOf G .of [.val (.str s)] = none := rfl
@[simp] theorem lock_tup (G : Gp) (s : List W) : lockOf G .of [.val (.tup s)] = none := rfl
@[simp] theorem lock_obj (G : Gp) (k : Kd) (o : O) : lockOf G .of [.obj k o] = none := rfl
/-- .. whose turns tell all -/
theorem lcR_map {own tg : List Nat} {ik : Ik} {fc : Sl → Gp → EO Bool} {fe : Sl → Gp → EO R} {σ : Sl} {xs : List R} {G : Gp} {its : List W} (f : W → W) (hw : walk G ik xs = some its) (hl : lockOf G ik xs = none)
    (h : ∀ x ∈ its, lcStep own tg fc fe σ x G = .ok (some (f x)) G) (hz : its.length < sizeL) : lcR own tg ik fc fe σ xs G = .ok (.obj .own (.lst (its.map f))) G := by
  rw [lcR_pure (fun x => some (f x)) hw hl h hz]
  simp
/-- of a text's signs, those that .. -/
theorem lcR_signs {own tg : List Nat} {fc : Sl → Gp → EO Bool} {fe : Sl → Gp → EO R} {σ : Sl} {s : Tx} {G : Gp} (p : Nat → Bool)
    (h : ∀ c ∈ s, lcStep own tg fc fe σ (.str [c]) G = .ok (if p c then some (.str [c]) else none) G) (hz : s.length < sizeL) : lcR own tg .of fc fe σ [.val (.str s)] G = .ok (.obj .own (.lst ((s.filter p).map fun c => .str [c]))) G := by
  rw [lcR_pure (its := s.map fun c => .str [c]) (fun x => match x with | .str [c] => if p c then some (.str [c]) else none | _ => none) rfl rfl (fun x hx => ?_) (by simpa using hz)]
  · congr 4
    clear h hz
    induction s with
    | nil => rfl
    | cons c s ih =>
      by_cases hc : p c = true
      · simp [hc, ih]
      · simp [hc, ih]
  · obtain ⟨c, hc, rfl⟩ := List.mem_map.mp hx
    exact h c hc
end Mi
namespace Mi
section
variable {G : Gp} {x y : R} {a b : W} {xs ys : List W} {s t : Tx} {i j : Int} {k k2 : Kd} {o : O} {σ : Sl}
/-! comparisons -/
@[simp] theorem small_iff' : small i = true ↔ -4611686018427387904 < i ∧ i < 4611686018427387904 := small_iff i
@[simp] theorem cmpR_eq : cmpR .eq G x y = eqR G x y := rfl
@[simp] theorem cmpR_ne : cmpR .ne G x y = (eqR G x y).map not := rfl
@[simp] theorem cmpR_is : cmpR .isn G x (.val .non) = some (decide (x = .val .non)) := by simp [cmpR]
@[simp] theorem cmpR_isn : cmpR .notn G x (.val .non) = some (!decide (x = .val .non)) := by simp [cmpR]
@[simp] theorem cmpR_lt : cmpR .lt G (.val (.int i)) (.val (.int j)) = some (decide (i < j)) := rfl
@[simp] theorem cmpR_le : cmpR .le G (.val (.int i)) (.val (.int j)) = some (decide (i ≤ j)) := rfl
@[simp] theorem cmpR_gt : cmpR .gt G (.val (.int i)) (.val (.int j)) = some (decide (j < i)) := rfl
@[simp] theorem cmpR_ge : cmpR .ge G (.val (.int i)) (.val (.int j)) = some (decide (j ≤ i)) := rfl
@[simp] theorem cmpR_in : cmpR .inn G x y = cmpR.inR G x y := rfl
@[simp] theorem cmpR_nin : cmpR .nin G x y = (cmpR.inR G x y).map not := rfl
@[simp] theorem inR_str : cmpR.inR G (.val (.str s)) (.val (.str t)) = subT s t := rfl
@[simp] theorem inR_tup : cmpR.inR G (.val a) (.val (.tup xs)) = memP a xs := by cases a <;> rfl
@[simp] theorem inR_lst : cmpR.inR G (.val a) (.obj k (.lst xs)) = memW a xs := by cases a <;> rfl
@[simp] theorem subT_one (c : Nat) : subT [c] t = some (decide (c ∈ t)) := rfl
@[simp] theorem eqR_int : eqR G (.val (.int i)) (.val (.int j)) = some (decide (i = j)) := by simp [eqR, content, cmpOk, flatW, flatN]
@[simp] theorem eqR_str : eqR G (.val (.str s)) (.val (.str t)) = some (decide (s = t)) := by simp [eqR, content, cmpOk, flatW, flatN]
@[simp] theorem eqR_bl (p q : Bool) : eqR G (.val (.bl p)) (.val (.bl q)) = some (decide (p = q)) := by simp [eqR, content, cmpOk, flatW, flatN]
@[simp] theorem eqR_lst : eqR G (.obj k (.lst xs)) (.obj k2 (.lst ys)) = eqL xs ys := by simp [eqR, content]
@[simp] theorem eqL_nil : eqL xs [] = some xs.isEmpty := by cases xs <;> simp [eqL]
@[simp] theorem nil_eqL : eqL [] xs = some xs.isEmpty := by cases xs <;> simp [eqL]
theorem eqL_ok (h1 : cmpOks xs ys = true) (h2 : ws xs = true) (h3 : ws ys = true) : eqL xs ys = some (decide (xs = ys)) := by
  unfold eqL
  cases xs with
  | nil => cases ys <;> simp
  | cons x xs => cases ys with
    | nil => simp
    | cons y ys => simp only [List.isEmpty_cons, Bool.or_self, Bool.false_eq_true, if_false]; rw [if_pos (by simp [h1, h2, h3])]
/-! built-in calls -/
@[simp] theorem fn_len_str (h : s.length ≤ sizeL) : fnR .len G [.val (.str s)] = some (.val (.int s.length)) := by simp [fnR, one1, lenR, h]
@[simp] theorem fn_len_tup : fnR .len G [.val (.tup xs)] = some (.val (.int xs.length)) := rfl
@[simp] theorem fn_len_lst : fnR .len G [.obj k (.lst xs)] = some (.val (.int xs.length)) := by simp [fnR, one1, lenR, content]
@[simp] theorem fn_str_str : fnR .str G [.val (.str s)] = some (.val (.str s)) := rfl
@[simp] theorem fn_str_int (h : 0 ≤ i) (h2 : i < 10000000000) : fnR .str G [.val (.int i)] = some (.val (.str (showN i.toNat))) := by
  simp only [fnR, one1, strR]; rw [if_pos ((shown_iff i).mpr ⟨h, h2⟩)]
@[simp] theorem fn_int_str (h : s ≠ []) (h2 : s.length ≤ 600) (h3 : s.all isFig = true) : fnR .int G [.val (.str s)] = some (.val (.int (readN s))) := by
  simp only [fnR, one1, intR]; rw [if_pos ⟨h, h2, h3⟩]
@[simp] theorem fn_int_bl (p : Bool) : fnR .int G [.val (.bl p)] = some (.val (.int (if p then 1 else 0))) := rfl
@[simp] theorem fn_list_lst : fnR .list G [.obj k (.lst xs)] = some (.obj .own (.lst xs)) := by simp [fnR, one1, listR, seqOf, content]
@[simp] theorem fn_list_tup : fnR .list G [.val (.tup xs)] = some (.obj .own (.lst xs)) := rfl
@[simp] theorem fn_tuple_lst : fnR .tuple G [.obj k (.lst xs)] = some (.val (.tup xs)) := by simp [fnR, one1, tupleR, content]
/-! operators -/
@[simp] theorem bin_add_int : binR .add G (.val (.int i)) (.val (.int j)) = some (.val (.int (i + j))) := rfl
@[simp] theorem bin_sub_int : binR .sub G (.val (.int i)) (.val (.int j)) = some (.val (.int (i - j))) := rfl
@[simp] theorem bin_add_str (h : s.length + t.length ≤ sizeL) : binR .add G (.val (.str s)) (.val (.str t)) = some (.val (.str (s ++ t))) := by simp [binR, h]
@[simp] theorem bin_add_tup (h : xs.length + ys.length ≤ sizeL) : binR .add G (.val (.tup xs)) (.val (.tup ys)) = some (.val (.tup (xs ++ ys))) := by simp [binR, h]
@[simp] theorem bin_add_lst (h : xs.length + ys.length ≤ sizeL) : binR .add G (.obj k (.lst xs)) (.obj k2 (.lst ys)) = some (.obj .own (.lst (xs ++ ys))) := by simp [binR, contentU, h]
@[simp] theorem bin_mod (h : 0 < j) : binR .mod G (.val (.int i)) (.val (.int j)) = some (.val (.int (i % j))) := by simp [binR, h]
@[simp] theorem bin_fdiv (h : 0 < j) (h2 : j < 1073741824) : binR .fdiv G (.val (.int i)) (.val (.int j)) = some (.val (.int (i / j))) := by simp [binR, h, h2]
@[simp] theorem bin_mul (h : small j = true) : binR .mul G (.val (.int i)) (.val (.int j)) = some (.val (.int (i * j))) := by simp [binR, h]
@[simp] theorem neg_int : negR (.val (.int i)) G = .ok (.val (.int (-i))) G := rfl
/-! indices -/
theorem idx_str {n : Nat} (hz : s.length ≤ sizeL) (h : i = n) (hn : n < s.length) : idxR G (.val (.str s)) (.val (.int i)) = some (.str [s[n]]) := by
  subst h
  have h1 : ¬ sizeL < s.length := by omega
  simp [idxR, ixOf, h1, hn]
theorem ixOf_nat {n m : Nat} (h : n < m) : ixOf (n : Int) m = some n := by simp [ixOf, h]
@[simp] theorem idx_tup : idxR G (.val (.tup xs)) (.val (.int i)) = (ixOf i xs.length).bind fun k => xs[k]? := rfl
@[simp] theorem idx_lst : idxR G (.obj k (.lst xs)) (.val (.int i)) = (ixOf i xs.length).bind fun k => xs[k]? := by simp [idxR, content]
/-! methods -/
@[simp] theorem kind_str : kindR G (.val (.str s)) = some .str := rfl
@[simp] theorem kind_tup : kindR G (.val (.tup xs)) = some .tup := rfl
@[simp] theorem kind_lst : kindR G (.obj k (.lst xs)) = some .lst := by simp [kindR, content]
@[simp] theorem mt_split {c : Nat} (h : s.length + 2 ≤ sizeL) : mtE .str (.val (.str s)) .split [.val (.str [c])] G = .ok (.obj .own (.lst ((splitT c s).map .str))) G := by
  rw [mtE_def _ _ _ _ rfl]; simp [mtR, one1, splitR, h]
theorem strs_map (l : List Tx) : strsW (l.map .str) = some l := by
  induction l with
  | nil => rfl
  | cons a l ih => simp [strsW, ih]
@[simp] theorem mt_join {l : List Tx} (h : (l.map (·.length)).sum + l.length * s.length ≤ sizeL) : mtE .str (.val (.str s)) .join [.obj k (.lst (l.map .str))] G = .ok (.val (.str (joinT s l))) G := by
  rw [mtE_def _ _ _ _ rfl]; simp [mtR, one1, joinR, content, strs_map, h]
@[simp] theorem lstR_ok (h : xs.length ≤ sizeL) : lstR xs G = .ok (.obj .own (.lst xs)) G := by simp [lstR, h]
@[simp] theorem tupR_ok (h : xs.length ≤ sizeL) : tupR xs G = .ok (.val (.tup xs)) G := by simp [tupR, h]
theorem sizeL_big (n : Nat) (h : n ≤ 16777216) : n ≤ sizeL := h
/-! slots -/
@[simp] theorem getS_zero (r : Option R) : getS (r :: σ) 0 = match r with | some (.obj .own o) => some (.obj (.brw 0) o) | some r => some r | none => none := by
  cases r with
  | none => rfl
  | some r => cases r with
    | obj k o => cases k <;> rfl
    | _ => rfl
def getAt (n : Nat) (σ : Sl) (i : Nat) : Option R := match σ[i]? with
  | some (some (.obj .own o)) => some (.obj (.brw (n + i)) o)
  | some (some r) => some r
  | _ => none
end
end Mi
namespace Mi
@[simp] theorem idx_strG {G : Gp} {s : Tx} {i : Int} (hz : s.length ≤ sizeL) : idxR G (.val (.str s)) (.val (.int i)) = (ixOf i s.length).bind fun k => (s[k]?).map fun c => .str [c] := by
  have : ¬ sizeL < s.length := by omega
  simp [idxR, this]
theorem len_one {α : Type} {s : List α} (h : s.length = 1) : ∃ a, s = [a] := by
  match s, h with
  | [a], _ => exact ⟨a, rfl⟩
theorem len_two {α : Type} {s : List α} (h : s.length = 2) : ∃ a b, s = [a, b] := by
  match s, h with
  | [a, b], _ => exact ⟨a, b, rfl⟩
end Mi
namespace Mi
@[simp] theorem ixOf_0_1 : ixOf 0 1 = some 0 := rfl
@[simp] theorem ixOf_0_2 : ixOf 0 2 = some 0 := rfl
@[simp] theorem ixOf_1_2 : ixOf 1 2 = some 1 := rfl
@[simp] theorem ixOf_0_3 : ixOf 0 3 = some 0 := rfl
@[simp] theorem ixOf_1_3 : ixOf 1 3 = some 1 := rfl
@[simp] theorem ixOf_2_3 : ixOf 2 3 = some 2 := rfl
@[simp] theorem ixOf_0_4 : ixOf 0 4 = some 0 := rfl
@[simp] theorem ixOf_1_4 : ixOf 1 4 = some 1 := rfl
@[simp] theorem ixOf_2_4 : ixOf 2 4 = some 2 := rfl
@[simp] theorem ixOf_3_4 : ixOf 3 4 = some 3 := rfl
@[simp] theorem ixOf_0_5 : ixOf 0 5 = some 0 := rfl
@[simp] theorem ixOf_1_5 : ixOf 1 5 = some 1 := rfl
@[simp] theorem ixOf_2_5 : ixOf 2 5 = some 2 := rfl
@[simp] theorem ixOf_3_5 : ixOf 3 5 = some 3 := rfl
@[simp] theorem ixOf_4_5 : ixOf 4 5 = some 4 := rfl
@[simp] theorem ixOf_0_6 : ixOf 0 6 = some 0 := rfl
@[simp] theorem ixOf_1_6 : ixOf 1 6 = some 1 := rfl
@[simp] theorem ixOf_2_6 : ixOf 2 6 = some 2 := rfl
@[simp] theorem ixOf_3_6 : ixOf 3 6 = some 3 := rfl
@[simp] theorem ixOf_4_6 : ixOf 4 6 = some 4 := rfl
@[simp] theorem ixOf_5_6 : ixOf 5 6 = some 5 := rfl
@[simp] theorem ixOf_0_7 : ixOf 0 7 = some 0 := rfl
@[simp] theorem ixOf_1_7 : ixOf 1 7 = some 1 := rfl
@[simp] theorem ixOf_2_7 : ixOf 2 7 = some 2 := rfl
@[simp] theorem ixOf_3_7 : ixOf 3 7 = some 3 := rfl
@[simp] theorem ixOf_4_7 : ixOf 4 7 = some 4 := rfl
@[simp] theorem ixOf_5_7 : ixOf 5 7 = some 5 := rfl
@[simp] theorem ixOf_6_7 : ixOf 6 7 = some 6 := rfl
@[simp] theorem ixOf_zero (n : Nat) : ixOf 0 (n + 1) = some 0 := by
  have : (0 : Int) < ((n + 1 : Nat) : Int) := by omega
  simp [ixOf, this]
@[simp] theorem ixOf_one (n : Nat) : ixOf 1 (n + 2) = some 1 := by
  have : (1 : Int) < ((n + 2 : Nat) : Int) := by omega
  unfold ixOf
  rw [if_pos (by decide), if_pos this]; rfl
@[simp] theorem ixOf_two (n : Nat) : ixOf 2 (n + 3) = some 2 := by
  have : (2 : Int) < ((n + 3 : Nat) : Int) := by omega
  unfold ixOf
  rw [if_pos (by decide), if_pos this]; rfl
@[simp] theorem ixOf_three (n : Nat) : ixOf 3 (n + 4) = some 3 := by
  have : (3 : Int) < ((n + 4 : Nat) : Int) := by omega
  unfold ixOf
  rw [if_pos (by decide), if_pos this]; rfl
@[simp] theorem ixOf_four (n : Nat) : ixOf 4 (n + 5) = some 4 := by
  have : (4 : Int) < ((n + 5 : Nat) : Int) := by omega
  unfold ixOf
  rw [if_pos (by decide), if_pos this]; rfl
section
variable {G : Gp} {xs : List W} {k : Kd} {w : Wd} {σ σ1 : Sl} {G1 : Gp} {e : E} {i : Nat} {x : W}
theorem slc_from (n : Nat) (hn : n < 1000) : slcR G (.obj k (.lst xs)) (some (.val (.int n))) none = some (.obj .own (.lst (xs.drop n))) := by
  have h1 : small (n : Int) = true := (small_iff _).mpr (by omega)
  have h2 : ¬ (n : Int) < 0 := by omega
  simp [slcR, content, endOf, h1, h2, cut]
  by_cases z : n ≤ xs.length
  · rw [Nat.min_eq_left z]; apply List.take_of_length_le; simp
  · rw [Nat.min_eq_right (by omega), List.drop_eq_nil_of_le (by omega), List.drop_eq_nil_of_le (by omega)]; simp
@[simp] theorem slc_one : slcR G (.obj k (.lst xs)) (some (.val (.int 1))) none = some (.obj .own (.lst (xs.drop 1))) := slc_from 1 (by decide)
@[simp] theorem slc_three : slcR G (.obj k (.lst xs)) (some (.val (.int 3))) none = some (.obj .own (.lst (xs.drop 3))) := slc_from 3 (by decide)
@[simp] theorem slc_four : slcR G (.obj k (.lst xs)) (some (.val (.int 4))) none = some (.obj .own (.lst (xs.drop 4))) := slc_from 4 (by decide)
theorem slc_tup (n : Nat) (hn : n < 1000) : slcR G (.val (.tup xs)) (some (.val (.int n))) none = some (.val (.tup (xs.drop n))) := by
  have h1 : small (n : Int) = true := (small_iff _).mpr (by omega)
  have h2 : ¬ (n : Int) < 0 := by omega
  simp [slcR, content, endOf, h1, h2, cut]
  by_cases z : n ≤ xs.length
  · rw [Nat.min_eq_left z]; apply List.take_of_length_le; simp
  · rw [Nat.min_eq_right (by omega), List.drop_eq_nil_of_le (by omega), List.drop_eq_nil_of_le (by omega)]; simp
@[simp] theorem slc_tup1 : slcR G (.val (.tup xs)) (some (.val (.int 1))) none = some (.val (.tup (xs.drop 1))) := slc_tup 1 (by decide)
/-- x.append(e), x a slot's own list -/
theorem mut_app (h : σ[i]? = some (some (.obj .own (.lst xs)))) (he : evM w e σ G = .ok (x, σ1) G1) (h1 : σ1[i]? = some (some (.obj .own (.lst xs)))) (hl : xs.length < sizeL) : mutR w i .append [e] σ G = .nx (σ1.set i (some (.obj .own (.lst (xs ++ [x]))))) G1 := by
  unfold mutR
  simp only [slotK, h, kind_lst]
  simp only [argsM, he, bind_ok, so_ok, h1, kind_lst, if_true]
  simp [muR, on1, appendO, hl]
theorem mut_ext {ys : List W} {k2 : Kd} {es : List E} (h : σ[i]? = some (some (.obj .own (.lst xs)))) (he : evs w es σ G = .ok [.obj k2 (.lst ys)] G1) (hl : xs.length + ys.length ≤ sizeL) : mutR w i .extend es σ G = .nx (σ.set i (some (.obj .own (.lst (xs ++ ys))))) G1 := by
  unfold mutR
  simp only [slotK, h, kind_lst]
  have : argsM w .extend es σ G = .ok ([.obj k2 (.lst ys)], σ) G1 := by
    unfold argsM
    simp [he, boxR]
  simp only [this, so_ok, h, kind_lst, if_true]
  simp [muR, on1, extendO, contentU, hl]
/-- a name that is read in a test of kinds -/
@[simp] theorem isi_str {sup : Nat → Nat → Bool} {s : Tx} {t : Ty} (ht : ∀ c, t ≠ .exc c) : isiR sup G (.val (.str s)) t = some (decide (t = .str)) := by
  cases t <;> first | rfl | exact absurd rfl (ht _)
end
theorem memP_str {s : Tx} {ss : List Tx} : memP (.str s) (ss.map .str) = some (decide (s ∈ ss)) := by
  unfold memP
  rw [if_pos]
  · simp
  · simp only [Bool.and_eq_true, List.all_eq_true, List.mem_map]
    refine ⟨⟨rfl, ?_⟩, ?_⟩
    · rintro x ⟨t, _, rfl⟩; rfl
    · rintro x ⟨t, _, rfl⟩; rfl
end Mi
namespace Mi
@[simp] theorem tupR_0 (G : Gp) : tupR [] G = .ok (.val (.tup [])) G := if_pos (show 0 ≤ sizeL by decide)
@[simp] theorem lstR_0 (G : Gp) : lstR [] G = .ok (.obj .own (.lst [])) G := if_pos (show 0 ≤ sizeL by decide)
@[simp] theorem tupR_1 (G : Gp) (x0 : W) : tupR [x0] G = .ok (.val (.tup [x0])) G := if_pos (show 1 ≤ sizeL by decide)
@[simp] theorem lstR_1 (G : Gp) (x0 : W) : lstR [x0] G = .ok (.obj .own (.lst [x0])) G := if_pos (show 1 ≤ sizeL by decide)
@[simp] theorem tupR_2 (G : Gp) (x0 x1 : W) : tupR [x0, x1] G = .ok (.val (.tup [x0, x1])) G := if_pos (show 2 ≤ sizeL by decide)
@[simp] theorem lstR_2 (G : Gp) (x0 x1 : W) : lstR [x0, x1] G = .ok (.obj .own (.lst [x0, x1])) G := if_pos (show 2 ≤ sizeL by decide)
@[simp] theorem tupR_3 (G : Gp) (x0 x1 x2 : W) : tupR [x0, x1, x2] G = .ok (.val (.tup [x0, x1, x2])) G := if_pos (show 3 ≤ sizeL by decide)
@[simp] theorem lstR_3 (G : Gp) (x0 x1 x2 : W) : lstR [x0, x1, x2] G = .ok (.obj .own (.lst [x0, x1, x2])) G := if_pos (show 3 ≤ sizeL by decide)
@[simp] theorem tupR_4 (G : Gp) (x0 x1 x2 x3 : W) : tupR [x0, x1, x2, x3] G = .ok (.val (.tup [x0, x1, x2, x3])) G := if_pos (show 4 ≤ sizeL by decide)
@[simp] theorem lstR_4 (G : Gp) (x0 x1 x2 x3 : W) : lstR [x0, x1, x2, x3] G = .ok (.obj .own (.lst [x0, x1, x2, x3])) G := if_pos (show 4 ≤ sizeL by decide)
@[simp] theorem tupR_5 (G : Gp) (x0 x1 x2 x3 x4 : W) : tupR [x0, x1, x2, x3, x4] G = .ok (.val (.tup [x0, x1, x2, x3, x4])) G := if_pos (show 5 ≤ sizeL by decide)
@[simp] theorem lstR_5 (G : Gp) (x0 x1 x2 x3 x4 : W) : lstR [x0, x1, x2, x3, x4] G = .ok (.obj .own (.lst [x0, x1, x2, x3, x4])) G := if_pos (show 5 ≤ sizeL by decide)
@[simp] theorem tupR_6 (G : Gp) (x0 x1 x2 x3 x4 x5 : W) : tupR [x0, x1, x2, x3, x4, x5] G = .ok (.val (.tup [x0, x1, x2, x3, x4, x5])) G := if_pos (show 6 ≤ sizeL by decide)
@[simp] theorem lstR_6 (G : Gp) (x0 x1 x2 x3 x4 x5 : W) : lstR [x0, x1, x2, x3, x4, x5] G = .ok (.obj .own (.lst [x0, x1, x2, x3, x4, x5])) G := if_pos (show 6 ≤ sizeL by decide)
@[simp] theorem tupR_7 (G : Gp) (x0 x1 x2 x3 x4 x5 x6 : W) : tupR [x0, x1, x2, x3, x4, x5, x6] G = .ok (.val (.tup [x0, x1, x2, x3, x4, x5, x6])) G := if_pos (show 7 ≤ sizeL by decide)
@[simp] theorem lstR_7 (G : Gp) (x0 x1 x2 x3 x4 x5 x6 : W) : lstR [x0, x1, x2, x3, x4, x5, x6] G = .ok (.obj .own (.lst [x0, x1, x2, x3, x4, x5, x6])) G := if_pos (show 7 ≤ sizeL by decide)
@[simp] theorem tupR_8 (G : Gp) (x0 x1 x2 x3 x4 x5 x6 x7 : W) : tupR [x0, x1, x2, x3, x4, x5, x6, x7] G = .ok (.val (.tup [x0, x1, x2, x3, x4, x5, x6, x7])) G := if_pos (show 8 ≤ sizeL by decide)
@[simp] theorem lstR_8 (G : Gp) (x0 x1 x2 x3 x4 x5 x6 x7 : W) : lstR [x0, x1, x2, x3, x4, x5, x6, x7] G = .ok (.obj .own (.lst [x0, x1, x2, x3, x4, x5, x6, x7])) G := if_pos (show 8 ≤ sizeL by decide)
end Mi
namespace Mi
section
variable {w : Wd} {σ : Sl} {G : Gp} {r : R} {rs : List R} {ts : List T} {i : Nat}
@[simp] theorem stRs_nil : stRs w [] [] σ G = .nx σ G := rfl
@[simp] theorem stRs_v : stRs w (.v i :: ts) (r :: rs) σ G = stRs w ts rs (σ.set i (some r)) G := rfl
@[simp] theorem noBrw_nil : noBrw [] = true := rfl
@[simp] theorem noBrw_val (x : W) : noBrw (.val x :: rs) = noBrw rs := rfl
@[simp] theorem noBrw_own (o : O) : noBrw (.obj .own o :: rs) = noBrw rs := rfl
@[simp] theorem noBrw_frz (o : O) : noBrw (.obj .frz o :: rs) = noBrw rs := rfl
@[simp] theorem callR_def (cf : List R → Gp → FO) (xs : List R) : callR cf xs G = if noTop xs then (cf (xs.map asArg) G).eo else .bad := rfl
@[simp] theorem noTop_nil : noTop [] = true := rfl
@[simp] theorem noTop_val (x : W) : noTop (.val x :: rs) = noTop rs := rfl
@[simp] theorem noTop_own (o : O) : noTop (.obj .own o :: rs) = noTop rs := rfl
@[simp] theorem noTop_frz (o : O) : noTop (.obj .frz o :: rs) = noTop rs := rfl
@[simp] theorem noTop_brw (i : Nat) (o : O) : noTop (.obj (.brw i) o :: rs) = noTop rs := rfl
@[simp] theorem asArg_val (x : W) : asArg (.val x) = .val x := rfl
@[simp] theorem asArg_own (o : O) : asArg (.obj .own o) = .obj .own o := rfl
@[simp] theorem asArg_frz (o : O) : asArg (.obj .frz o) = .obj .frz o := rfl
@[simp] theorem asArg_brw (i : Nat) (o : O) : asArg (.obj (.brw i) o) = .obj .frz o := rfl
/-- a dict of the top -/
@[simp] theorem in_top (kvs : List (W × W)) (s : Tx) : cmpR.inR G (.val (.str s)) (.obj .top (.dct kvs)) = some (dget kvs (.str s)).isSome := by simp [cmpR.inR, content, keyOk, keyFor]
@[simp] theorem idx_top (kvs : List (W × W)) (s : Tx) : idxR G (.obj .top (.dct kvs)) (.val (.str s)) = dget kvs (.str s) := by simp [idxR, content, keyOk, keyFor]
@[simp] theorem dget_nil (k : W) : dget [] k = none := rfl
@[simp] theorem dget_cons (k v : W) (kvs : List (W × W)) (j : W) : dget ((k, v) :: kvs) j = if j = k then some v else dget kvs j := by
  unfold dget
  rw [List.lookup_cons]
  by_cases h : j = k
  · subst h; simp
  · have : (j == k) = false := by simpa using h
    rw [this, if_neg h]
end
end Mi
namespace Mi
section
variable {step : W → Sl → Gp → SO} {chk : Gp → Bool} {σ : Sl} {G G0 : Gp} {x : W} {xs l : List W} {k : Kd}
@[simp] theorem walk_enm : walk G .enm [.obj k (.lst l)] = some (enumW 0 l) := by simp [walk, lstOf, content]
@[simp] theorem lock_enm (xs : List R) : lockOf G .enm xs = none := rfl
@[simp] theorem lock_rng (xs : List R) : lockOf G .rng xs = none := rfl
@[simp] theorem lock_zip (xs : List R) : lockOf G .zip xs = none := rfl
theorem chk_of : chkW ([R.obj k (.lst l)].map (kindR G0)) .of [.obj k (.lst l)] l G = true := by simp [chkW]
theorem chk_enm : chkW ([R.obj k (.lst l)].map (kindR G0)) .enm [.obj k (.lst l)] (enumW 0 l) G = true := by simp [chkW]
theorem chk_tup : chkW ([R.val (.tup l)].map (kindR G0)) .of [.val (.tup l)] l G = true := by simp [chkW]
theorem forL_nil (h : chk G = true) : forL step chk [] σ G = .nx σ G := by rw [forL, if_pos h]
def SO.loop (x : SO) (k : Sl → Gp → SO) : SO := match x with
  | .nx σ G => k σ G
  | .ct σ G => k σ G
  | .bk σ G => .nx σ G
  | r => r
@[simp] theorem loop_nx (σ : Sl) (G : Gp) (k : Sl → Gp → SO) : SO.loop (.nx σ G) k = k σ G := rfl
@[simp] theorem loop_ret (r : R) (G : Gp) (k : Sl → Gp → SO) : SO.loop (.ret r G) k = .ret r G := rfl
@[simp] theorem loop_exc (c : Nat) (x : W) (σ : Sl) (G : Gp) (k : Sl → Gp → SO) : SO.loop (.exc c x σ G) k = .exc c x σ G := rfl
theorem forL_cons (h : chk G = true) : forL step chk (x :: xs) σ G = (step x σ G).loop (forL step chk xs) := by
  rw [forL, if_pos h]
  cases step x σ G <;> rfl
def turnL (tg : List Nat) (run : Sl → Gp → SO) (x : W) (σ : Sl) (G : Gp) : SO := match bindT tg x σ with
  | some σ => run σ G
  | none => .bad
@[simp] theorem turn_one (i : Nat) (run : Sl → Gp → SO) (x : W) (σ : Sl) (G : Gp) : turnL [i] run x σ G = run (σ.set i (some (.val x))) G := rfl
@[simp] theorem turn_two (i j : Nat) (run : Sl → Gp → SO) (x y : W) (σ : Sl) (G : Gp) : turnL [i, j] run (.tup [x, y]) σ G = run ((σ.set i (some (.val x))).set j (some (.val y))) G := rfl
@[simp] theorem turn_three (i j l : Nat) (run : Sl → Gp → SO) (x y z : W) (σ : Sl) (G : Gp) : turnL [i, j, l] run (.tup [x, y, z]) σ G = run (((σ.set i (some (.val x))).set j (some (.val y))).set l (some (.val z))) G := rfl
theorem forR_eq {ik : Ik} {tg : List Nat} {run : Sl → Gp → SO} {rs : List R} {its : List W} (hw : walk G ik rs = some its) (hl : lockOf G ik rs = none) : forR ik tg run rs σ G = forL (turnL tg run) (chkW (rs.map (kindR G)) ik rs its) its (frzS rs σ) G := by
  unfold forR
  rw [hw]
  dsimp only
  rw [hl]
  rfl
theorem whileL_succ (c : Sl → Gp → EO Bool) (run : Sl → Gp → SO) (n : Nat) : whileL c run (n + 1) σ G = (c σ G).so σ fun k G => if k then (run σ G).loop (whileL c run n) else .nx σ G := by
  rw [whileL]
  congr 1
@[simp] theorem frzS_nil : frzS [] σ = σ := rfl
@[simp] theorem frzS_own (o : O) (rs : List R) : frzS (.obj .own o :: rs) σ = frzS rs σ := rfl
@[simp] theorem frzS_frz (o : O) (rs : List R) : frzS (.obj .frz o :: rs) σ = frzS rs σ := rfl
@[simp] theorem frzS_val (w : W) (rs : List R) : frzS (.val w :: rs) σ = frzS rs σ := rfl
@[simp] theorem frzS_brw (i : Nat) (o : O) (rs : List R) : frzS (.obj (.brw i) o :: rs) σ = frzS rs (frz1 σ i) := rfl
end
end Mi
namespace Mi
@[simp] theorem lz_0 : (0 ≤ sizeL) = True := by simp [sizeL]
@[simp] theorem ltz_0 : (0 < sizeL) = True := by simp [sizeL]
@[simp] theorem lz_1 : (1 ≤ sizeL) = True := by simp [sizeL]
@[simp] theorem ltz_1 : (1 < sizeL) = True := by simp [sizeL]
@[simp] theorem lz_2 : (2 ≤ sizeL) = True := by simp [sizeL]
@[simp] theorem ltz_2 : (2 < sizeL) = True := by simp [sizeL]
@[simp] theorem lz_3 : (3 ≤ sizeL) = True := by simp [sizeL]
@[simp] theorem ltz_3 : (3 < sizeL) = True := by simp [sizeL]
@[simp] theorem lz_4 : (4 ≤ sizeL) = True := by simp [sizeL]
@[simp] theorem ltz_4 : (4 < sizeL) = True := by simp [sizeL]
@[simp] theorem lz_5 : (5 ≤ sizeL) = True := by simp [sizeL]
@[simp] theorem ltz_5 : (5 < sizeL) = True := by simp [sizeL]
@[simp] theorem lz_6 : (6 ≤ sizeL) = True := by simp [sizeL]
@[simp] theorem ltz_6 : (6 < sizeL) = True := by simp [sizeL]
@[simp] theorem lz_7 : (7 ≤ sizeL) = True := by simp [sizeL]
@[simp] theorem ltz_7 : (7 < sizeL) = True := by simp [sizeL]
@[simp] theorem lz_8 : (8 ≤ sizeL) = True := by simp [sizeL]
@[simp] theorem ltz_8 : (8 < sizeL) = True := by simp [sizeL]
@[simp] theorem lz_9 : (9 ≤ sizeL) = True := by simp [sizeL]
@[simp] theorem ltz_9 : (9 < sizeL) = True := by simp [sizeL]
@[simp] theorem lz_10 : (10 ≤ sizeL) = True := by simp [sizeL]
@[simp] theorem ltz_10 : (10 < sizeL) = True := by simp [sizeL]
@[simp] theorem lz_11 : (11 ≤ sizeL) = True := by simp [sizeL]
@[simp] theorem ltz_11 : (11 < sizeL) = True := by simp [sizeL]
@[simp] theorem lz_12 : (12 ≤ sizeL) = True := by simp [sizeL]
@[simp] theorem ltz_12 : (12 < sizeL) = True := by simp [sizeL]
@[simp] theorem lz_13 : (13 ≤ sizeL) = True := by simp [sizeL]
@[simp] theorem ltz_13 : (13 < sizeL) = True := by simp [sizeL]
@[simp] theorem lz_14 : (14 ≤ sizeL) = True := by simp [sizeL]
@[simp] theorem ltz_14 : (14 < sizeL) = True := by simp [sizeL]
@[simp] theorem lz_15 : (15 ≤ sizeL) = True := by simp [sizeL]
@[simp] theorem ltz_15 : (15 < sizeL) = True := by simp [sizeL]
@[simp] theorem lz_16 : (16 ≤ sizeL) = True := by simp [sizeL]
@[simp] theorem ltz_16 : (16 < sizeL) = True := by simp [sizeL]
@[simp] theorem lz_17 : (17 ≤ sizeL) = True := by simp [sizeL]
@[simp] theorem ltz_17 : (17 < sizeL) = True := by simp [sizeL]
@[simp] theorem lz_18 : (18 ≤ sizeL) = True := by simp [sizeL]
@[simp] theorem ltz_18 : (18 < sizeL) = True := by simp [sizeL]
@[simp] theorem lz_19 : (19 ≤ sizeL) = True := by simp [sizeL]
@[simp] theorem ltz_19 : (19 < sizeL) = True := by simp [sizeL]
@[simp] theorem lz_20 : (20 ≤ sizeL) = True := by simp [sizeL]
@[simp] theorem ltz_20 : (20 < sizeL) = True := by simp [sizeL]
@[simp] theorem lz_21 : (21 ≤ sizeL) = True := by simp [sizeL]
@[simp] theorem ltz_21 : (21 < sizeL) = True := by simp [sizeL]
@[simp] theorem lz_22 : (22 ≤ sizeL) = True := by simp [sizeL]
@[simp] theorem ltz_22 : (22 < sizeL) = True := by simp [sizeL]
@[simp] theorem lz_23 : (23 ≤ sizeL) = True := by simp [sizeL]
@[simp] theorem ltz_23 : (23 < sizeL) = True := by simp [sizeL]
@[simp] theorem lz_24 : (24 ≤ sizeL) = True := by simp [sizeL]
@[simp] theorem ltz_24 : (24 < sizeL) = True := by simp [sizeL]
@[simp] theorem lz_25 : (25 ≤ sizeL) = True := by simp [sizeL]
@[simp] theorem ltz_25 : (25 < sizeL) = True := by simp [sizeL]
@[simp] theorem lz_26 : (26 ≤ sizeL) = True := by simp [sizeL]
@[simp] theorem ltz_26 : (26 < sizeL) = True := by simp [sizeL]
@[simp] theorem lz_27 : (27 ≤ sizeL) = True := by simp [sizeL]
@[simp] theorem ltz_27 : (27 < sizeL) = True := by simp [sizeL]
@[simp] theorem lz_28 : (28 ≤ sizeL) = True := by simp [sizeL]
@[simp] theorem ltz_28 : (28 < sizeL) = True := by simp [sizeL]
@[simp] theorem lz_29 : (29 ≤ sizeL) = True := by simp [sizeL]
@[simp] theorem ltz_29 : (29 < sizeL) = True := by simp [sizeL]
@[simp] theorem lz_30 : (30 ≤ sizeL) = True := by simp [sizeL]
@[simp] theorem ltz_30 : (30 < sizeL) = True := by simp [sizeL]
@[simp] theorem lz_31 : (31 ≤ sizeL) = True := by simp [sizeL]
@[simp] theorem ltz_31 : (31 < sizeL) = True := by simp [sizeL]
@[simp] theorem lz_32 : (32 ≤ sizeL) = True := by simp [sizeL]
@[simp] theorem ltz_32 : (32 < sizeL) = True := by simp [sizeL]
@[simp] theorem lz_33 : (33 ≤ sizeL) = True := by simp [sizeL]
@[simp] theorem ltz_33 : (33 < sizeL) = True := by simp [sizeL]
@[simp] theorem lz_34 : (34 ≤ sizeL) = True := by simp [sizeL]
@[simp] theorem ltz_34 : (34 < sizeL) = True := by simp [sizeL]
@[simp] theorem lz_35 : (35 ≤ sizeL) = True := by simp [sizeL]
@[simp] theorem ltz_35 : (35 < sizeL) = True := by simp [sizeL]
@[simp] theorem lz_36 : (36 ≤ sizeL) = True := by simp [sizeL]
@[simp] theorem ltz_36 : (36 < sizeL) = True := by simp [sizeL]
@[simp] theorem lz_37 : (37 ≤ sizeL) = True := by simp [sizeL]
@[simp] theorem ltz_37 : (37 < sizeL) = True := by simp [sizeL]
@[simp] theorem lz_38 : (38 ≤ sizeL) = True := by simp [sizeL]
@[simp] theorem ltz_38 : (38 < sizeL) = True := by simp [sizeL]
@[simp] theorem lz_39 : (39 ≤ sizeL) = True := by simp [sizeL]
@[simp] theorem ltz_39 : (39 < sizeL) = True := by simp [sizeL]
@[simp] theorem lz_40 : (40 ≤ sizeL) = True := by simp [sizeL]
@[simp] theorem ltz_40 : (40 < sizeL) = True := by simp [sizeL]
@[simp] theorem lz_64 : (64 ≤ sizeL) = True := by simp [sizeL]
@[simp] theorem ltz_64 : (64 < sizeL) = True := by simp [sizeL]
@[simp] theorem lz_100 : (100 ≤ sizeL) = True := by simp [sizeL]
@[simp] theorem ltz_100 : (100 < sizeL) = True := by simp [sizeL]
@[simp] theorem lz_200 : (200 ≤ sizeL) = True := by simp [sizeL]
@[simp] theorem ltz_200 : (200 < sizeL) = True := by simp [sizeL]
@[simp] theorem lz_201 : (201 ≤ sizeL) = True := by simp [sizeL]
@[simp] theorem ltz_201 : (201 < sizeL) = True := by simp [sizeL]
@[simp] theorem lz_1000 : (1000 ≤ sizeL) = True := by simp [sizeL]
@[simp] theorem ltz_1000 : (1000 < sizeL) = True := by simp [sizeL]
end Mi
namespace Mi
theorem lcL_list {α : Type} {chk : Gp → Bool} {step : W → Gp → EO (Option W)} {G : Gp} (hc : chk G = true) (g h : α → W) : ∀ (l : List α), (∀ a ∈ l, step (g a) G = .ok (some (h a)) G) → lcL chk step (l.map g) G = .ok (l.map h) G
  | [], _ => by rw [List.map_nil, lcL, if_pos hc]; rfl
  | a :: l, e => by
    rw [List.map_cons, lcL, if_pos hc, e a List.mem_cons_self]
    show (lcL chk step (l.map g) G).bind _ = _
    rw [lcL_list hc g h l fun b hb => e b (List.mem_cons_of_mem _ hb)]
    rfl
/-- .. of things -/
theorem lcR_list {α : Type} {own tg : List Nat} {ik : Ik} {fc : Sl → Gp → EO Bool} {fe : Sl → Gp → EO R} {σ : Sl} {xs : List R} {G : Gp} {l : List α} (g h : α → W) (hw : walk G ik xs = some (l.map g)) (hl : lockOf G ik xs = none)
    (e : ∀ a ∈ l, lcStep own tg fc fe σ (g a) G = .ok (some (h a)) G) (hz : l.length < sizeL) : lcR own tg ik fc fe σ xs G = .ok (.obj .own (.lst (l.map h))) G := by
  unfold lcR
  rw [hw]
  dsimp only
  rw [hl]
  show (lcL _ _ (l.map g) G).bind _ = _
  rw [lcL_list (by simp [chkW, hw]) g h l fun a ha => by simp [e a ha]]
  show (if (l.map h).length < sizeL then _ else _) = _
  rw [if_pos (by rw [List.length_map]; exact hz)]
  rfl
theorem lcR_run {own tg : List Nat} {ik : Ik} {fc : Sl → Gp → EO Bool} {fe : Sl → Gp → EO R} {σ : Sl} {xs : List R} {G G' : Gp} {its ys : List W} (hw : walk G ik xs = some its) (hl : lockOf G ik xs = none)
    (e : lcL (chkW (xs.map (kindR G)) ik xs its) (fun x G => (lcStep own tg fc fe σ x G).calm) its G = .ok ys G') (hz : ys.length < sizeL) : lcR own tg ik fc fe σ xs G = .ok (.obj .own (.lst ys)) G' := by
  unfold lcR
  rw [hw]
  dsimp only
  rw [hl]
  show (lcL _ _ its G).bind _ = _
  rw [e]
  show (if ys.length < sizeL then _ else _) = _
  rw [if_pos hz]
  rfl
/-- what is laid into a new list that is then lost -/
theorem mt_app_own {xs : List W} {x : W} {G : Gp} (h : xs.length < sizeL) : mtE .lst (.obj .own (.lst xs)) .append [.val x] G = .ok (.val .non) G := by
  simp [mtE, changes, boxR, muE, muR, on1, appendO, h]
end Mi
namespace Mi
/-! ### labels, plainly -/
def markLet (s : Tx) : Tx := match s.getLast? with
  | some c => if c ∈ letters then [c] else []
  | none => []
def markFig (s : Tx) : Tx := s.take (s.length - (markLet s).length)
def markL (s : Tx) : Option (Nat × Tx) :=
  if 1 ≤ (markFig s).length ∧ (markFig s).length ≤ 2 ∧ (markFig s).all isFig = true then
    if (1 < (markFig s).length ∧ (markFig s)[0]? = some 48) ∨ (markFig s = [48] ∧ markLet s = []) then none
    else some (readN (markFig s), markLet s)
  else none
def markW (m : Nat × Tx) : W := .tup [.int m.1, .str m.2]
def optW {α : Type} (f : α → W) : Option α → W
  | none => .non
  | some a => f a
@[simp] theorem optW_none {α : Type} (f : α → W) : optW f none = .non := rfl
@[simp] theorem optW_some {α : Type} (f : α → W) (a : α) : optW f (some a) = f a := rfl
theorem fig_mem (c : Nat) : (c ∈ ([48, 49, 50, 51, 52, 53, 54, 55, 56, 57] : Tx)) ↔ isFig c = true := by
  simp [isFig]; omega
theorem markLet_le (s : Tx) : (markLet s).length ≤ 1 ∧ (markLet s).length ≤ s.length := by
  unfold markLet
  cases h : s.getLast? with
  | none => simp
  | some c =>
    have : s ≠ [] := by intro e; subst e; cases h
    have := List.length_pos_iff.mpr this
    dsimp only
    split <;> simp <;> omega
theorem P_mark_of : P.fn n_mark_of = some ⟨1, 4, d_mark_of⟩ := rfl
theorem P_gl_LETTERS : P.gl n_LETTERS = some (.val (.str letters)) := rfl
theorem P_gl_FIGURES : P.gl n_FIGURES = some (.val (.str [48, 49, 50, 51, 52, 53, 54, 55, 56, 57])) := rfl
theorem run_mark_of (d : Nat) (s : Tx) (G : Gp) (hs : s.length < sizeL) : run P (d + 1) n_mark_of [.val (.str s)] G = .ok (.val (optW markW (markL s))) G := by
  rw [run_body P_mark_of rfl]
  have hz : ¬ sizeL < s.length := by omega
  have hlm := markLet_le s
  have hfm : (markFig s).length = s.length - (markLet s).length := by unfold markFig; rw [List.length_take]; omega
  have e1 : exec (lvl P d) (.asg (.v 1) (.ite (.cmp .inn (.slc (.v 0) (some (.neg (.c (.int 1)))) none) (.g n_LETTERS)) (.slc (.v 0) (some (.neg (.c (.int 1)))) none) (.c (.str [])))) [some (.val (.str s)), none, none, none] G = .nx [some (.val (.str s)), some (.val (.str (markLet s))), none, none] G := by
    rcases List.eq_nil_or_concat s with h | ⟨r, c, h⟩
    · subst h
      simp [getS, slcR, endOf, cut, P_gl_LETTERS, subT, markLet]
    · subst h
      have e : (-1 + ((r.length : Int) + 1)).toNat = r.length := by omega
      have e2 : ¬ sizeL < r.length + 1 := by simpa using hz
      by_cases hc : c ∈ letters <;> simp [getS, slcR, endOf, cut, P_gl_LETTERS, markLet, e, e2, hc]
  have e2 : ∀ (o : List (Option R)), exec (lvl P d) (.asg (.v 2) (.slc (.v 0) none (some (.bin .sub (.fn .len [.v 0]) (.fn .len [.v 1]))))) (some (.val (.str s)) :: some (.val (.str (markLet s))) :: none :: o) G = .nx (some (.val (.str s)) :: some (.val (.str (markLet s))) :: some (.val (.str (markFig s))) :: o) G := fun o => by
    have h1 : (markLet s).length ≤ sizeL := by omega
    have h3 : s.length ≤ sizeL := by omega
    have h2 : (4611686018427387904 : Int) > s.length := by
      have : sizeL < 4611686018427387904 := by decide
      omega
    have h5 : (s.length : Int) - ((markLet s).length : Int) = ((s.length - (markLet s).length : Nat) : Int) := by omega
    have h6 : (-4611686018427387904 : Int) < ((s.length - (markLet s).length : Nat) : Int) ∧ ((s.length - (markLet s).length : Nat) : Int) < 4611686018427387904 := by omega
    have h7 : ¬ ((s.length - (markLet s).length : Nat) : Int) < 0 := by omega
    simp [getS, slcR, hz, endOf, cut, h1, h3, h5, h6, h7]
    rfl
  simp only [d_mark_of, startS, List.map_cons, List.map_nil, List.length_cons, List.length_nil, List.replicate, List.cons_append, List.nil_append, execs_cons, e1, e2, then_nx]
  have hm : (markFig s).length < sizeL := by omega
  have h4 : (markFig s).length ≤ sizeL := by omega
  have lc : lcR [3] [3] .of (evC (lvl P d) (some (.cmp .nin (.v 3) (.g n_FIGURES)))) (ev (lvl P d) (.v 3)) [some (.val (.str s)), some (.val (.str (markLet s))), some (.val (.str (markFig s))), none] [.val (.str (markFig s))] G = .ok (.obj .own (.lst (((markFig s).filter (fun c => !isFig c)).map fun c => .str [c]))) G := by
    refine lcR_signs _ (fun c hc => ?_) hm
    have := fig_mem c
    by_cases hf : isFig c = true <;> simp [lcStep, bindT, wipeS, getS, P_gl_FIGURES, hf, this]
  have c0 : ((1 : Int) ≤ ((markFig s).length : Int)) ↔ 1 ≤ (markFig s).length := by omega
  have c3 : (((markFig s).length : Int) ≤ 2) ↔ (markFig s).length ≤ 2 := by omega
  have c4 : ((1 : Int) < ((markFig s).length : Int)) ↔ 1 < (markFig s).length := by omega
  have hls : lockS [.v 2] G .of [.val (.str (markFig s))] = true := rfl
  by_cases h1 : 1 ≤ (markFig s).length
  · by_cases h2 : (markFig s).length ≤ 2
    · by_cases h3 : (markFig s).all isFig = true
      · have hf : (markFig s).filter (fun c => !isFig c) = [] := by
          rw [List.filter_eq_nil_iff]; intro a ha; simpa using List.all_eq_true.mp h3 a ha
        have hn : markFig s ≠ [] := fun z => by rw [z] at h1; simp at h1
        have hl6 : (markFig s).length ≤ 600 := by omega
        have hi := fn_int_str (G := G) hn hl6 h3
        simp [getS, h4, c0, c3, c4, h1, h2, lc, hls, hf]
        have hm2 : markL s = if (1 < (markFig s).length ∧ (markFig s)[0]? = some 48) ∨ (markFig s = [48] ∧ markLet s = []) then none else some (readN (markFig s), markLet s) := by
          unfold markL; rw [if_pos ⟨h1, h2, h3⟩]
        rw [hm2]
        rcases (by omega : (markFig s).length = 1 ∨ (markFig s).length = 2) with q | q
        · obtain ⟨a, q⟩ := len_one q
          rw [q] at hi h4 ⊢
          by_cases z : a = 48
          · subst z
            by_cases y : markLet s = [] <;> simp [getS, hi, y, markW]
          · simp [getS, hi, z, markW]
        · obtain ⟨a, b, q⟩ := len_two q
          rw [q] at hi h4 ⊢
          simp only [List.length_cons, List.length_nil] at h4
          by_cases z : a = 48
          · subst z
            simp [getS, hi, h4, ixOf]
          · simp [getS, hi, h4, z, ixOf, markW]
      · have hf : (markFig s).filter (fun c => !isFig c) ≠ [] := by
          rw [Ne, List.filter_eq_nil_iff]; intro h; exact h3 (List.all_eq_true.mpr fun x hx => by simpa using h x hx)
        have hn : markL s = none := by unfold markL; rw [if_neg]; intro h; exact h3 h.2.2
        simp [getS, h4, c0, c3, h1, h2, lc, hls, hf, hn]
    · have hn : markL s = none := by unfold markL; rw [if_neg]; intro h; exact h2 h.2.1
      simp [getS, h4, c0, c3, h1, h2, hn]
  · have hn : markL s = none := by unfold markL; rw [if_neg]; intro h; exact h1 h.1
    simp [getS, h4, c0, h1, hn]
end Mi
namespace Mi
theorem splitT_len (c : Nat) : ∀ s : Tx, (splitT c s).length ≤ s.length + 1 ∧ ∀ p ∈ splitT c s, p.length ≤ s.length
  | [] => ⟨by simp [splitT], fun p h => by rw [splitT, List.mem_singleton] at h; subst h; simp⟩
  | x :: xs => by
    obtain ⟨h1, h2⟩ := splitT_len c xs
    rw [splitT]
    split
    · refine ⟨by simp; omega, fun p hp => ?_⟩
      rcases List.mem_cons.mp hp with rfl | hp
      · simp
      · have := h2 p hp; simp; omega
    · split
      · exact ⟨by simp, fun p hp => by rw [List.mem_singleton] at hp; subst hp; simp⟩
      · rename_i y ys e
        rw [e] at h1 h2
        refine ⟨by simp at h1 ⊢; omega, fun p hp => ?_⟩
        rcases List.mem_cons.mp hp with rfl | hp
        · have := h2 y List.mem_cons_self; simp; omega
        · have := h2 p (List.mem_cons_of_mem _ hp); simp; omega
def marksL (s : Tx) : Option (List (Nat × Tx)) :=
  if s = [] then none
  else if (splitT 46 s).any (fun p => (markL p).isNone) ∨ 4 < (splitT 46 s).length then none
  else some ((splitT 46 s).filterMap markL)
def marksW (ms : List (Nat × Tx)) : W := .tup (ms.map markW)
theorem flat_mark (o : Option (Nat × Tx)) : flatW (optW markW o) = true := by
  cases o with
  | none => rfl
  | some m => rfl
theorem P_marks_of : P.fn n_marks_of = some ⟨1, 3, d_marks_of⟩ := rfl
theorem P_gl_MOST_DEEP : P.gl n_MOST_DEEP = some (.val (.int 4)) := rfl
theorem run_marks_of (d : Nat) (s : Tx) (G : Gp) (hs : s.length + 2 ≤ sizeL) : run P (d + 2) n_marks_of [.val (.str s)] G = .ok (.val (optW marksW (marksL s))) G := by
  rw [run_body P_marks_of rfl]
  by_cases h0 : s = []
  · subst h0
    simp [d_marks_of, startS, getS, isisR, isiR, content, marksL]
  · obtain ⟨sl, sm⟩ := splitT_len 46 s
    have hz : (splitT 46 s).length < sizeL := by omega
    have lc : lcR [2] [2] .of (evC (lvl P (d + 1)) none) (ev (lvl P (d + 1)) (.call n_mark_of [.v 2])) [some (.val (.str s)), none, none] [.obj .own (.lst ((splitT 46 s).map .str))] G = .ok (.obj .own (.lst ((splitT 46 s).map fun p => optW markW (markL p)))) G := by
      rw [lcR_map (its := (splitT 46 s).map .str) (fun x => match x with | .str p => optW markW (markL p) | _ => .non) rfl rfl (fun x hx => ?_) (by simpa using hz)]
      · simp [List.map_map, Function.comp_def]
      · obtain ⟨p, hp, rfl⟩ := List.mem_map.mp hx
        have hp := sm p hp
        simp [lcStep, bindT, wipeS, getS, callR, noTop, asArg, run_mark_of d p G (by omega)]
    have hm : memW .non ((splitT 46 s).map fun p => optW markW (markL p)) = some (decide (W.non ∈ (splitT 46 s).map fun p => optW markW (markL p))) := by
      unfold memW
      rw [if_pos]
      simp only [Bool.and_eq_true]
      refine ⟨⟨rfl, ?_⟩, ?_⟩
      · simp only [Mi.ws, List.all_eq_true, List.mem_map]
        rintro x ⟨p, _, rfl⟩
        exact flat_mark _
      · simp only [List.all_eq_true, List.mem_map]
        rintro x ⟨p, _, rfl⟩
        cases markL p <;> rfl
    have hn : (W.non ∈ (splitT 46 s).map fun p => optW markW (markL p)) ↔ (splitT 46 s).any (fun p => (markL p).isNone) = true := by
      simp only [List.mem_map, List.any_eq_true]
      constructor
      · rintro ⟨p, hp, e⟩
        refine ⟨p, hp, ?_⟩
        cases h : markL p with
        | none => rfl
        | some m => rw [h] at e; cases e
      · rintro ⟨p, hp, e⟩
        refine ⟨p, hp, ?_⟩
        cases h : markL p with
        | none => rfl
        | some m => rw [h] at e; cases e
    have hls : lockS [.mt (.v 0) .split [.c (.str [46])]] G .of [.obj .own (.lst ((splitT 46 s).map .str))] = true := rfl
    have hsp : s.length + 2 ≤ sizeL := hs
    have c4 : ((4 : Int) < ((splitT 46 s).length : Int)) ↔ 4 < (splitT 46 s).length := by omega
    by_cases ha : (splitT 46 s).any (fun p => (markL p).isNone) = true
    · have e : marksL s = none := by unfold marksL; rw [if_neg h0, if_pos (.inl ha)]
      have hin := hn.mpr ha
      rw [decide_eq_true hin] at hm
      simp [d_marks_of, startS, getS, isisR, isiR, content, h0, hsp, lc, hls, hm, e]
    · have hin : ¬ _ := fun z => ha (hn.mp z)
      rw [decide_eq_false hin] at hm
      have hz2 : (splitT 46 s).map (fun p => optW markW (markL p)) = ((splitT 46 s).filterMap markL).map markW := by
        have hall : ∀ p ∈ splitT 46 s, (markL p).isSome = true := fun p hp => by
          cases h : markL p with
          | none => exact absurd (List.any_eq_true.mpr ⟨p, hp, by rw [h]; rfl⟩) ha
          | some _ => rfl
        generalize splitT 46 s = l at hall
        induction l with
        | nil => rfl
        | cons p l ih =>
          obtain ⟨m, hm⟩ := Option.isSome_iff_exists.mp (hall p List.mem_cons_self)
          rw [List.map_cons, List.filterMap_cons, hm, ih fun q hq => hall q (List.mem_cons_of_mem _ hq)]
          rfl
      by_cases h4 : 4 < (splitT 46 s).length
      · have e : marksL s = none := by unfold marksL; rw [if_neg h0, if_pos (.inr h4)]
        simp [d_marks_of, startS, getS, isisR, isiR, content, h0, hsp, lc, hls, hm, e, P_gl_MOST_DEEP, c4, h4]
      · have e : marksL s = some ((splitT 46 s).filterMap markL) := by unfold marksL; rw [if_neg h0, if_neg (fun z => z.elim ha h4)]
        simp [d_marks_of, startS, getS, isisR, isiR, content, h0, hsp, lc, hls, hm, e, P_gl_MOST_DEEP, c4, h4]
        exact congrArg W.tup hz2
end Mi
namespace Mi
/-! ### parts -/
inductive Pt where
  | word (s : Tx) | cite (k l : Tx)
  deriving DecidableEq
def tAs : Tx := [97, 115]
def tSee : Tx := [115, 101, 101]
def Pt.w : Pt → W
  | .word s => .str s
  | .cite k l => .tup [.str k, .str l]
def isLet (c : Nat) : Bool := decide (c ∈ letters)
def wordOk (s : Tx) : Bool := decide (1 ≤ s.length) && decide (s.length ≤ 20) && !(decide (s = tAs) || decide (s = tSee)) && s.all isLet
def Pt.ok : Pt → Bool
  | .word s => wordOk s
  | .cite k l => (decide (k = tAs) || decide (k = tSee)) && (marksL l).isSome
theorem P_is_part : P.fn n_is_part = some ⟨1, 2, d_is_part⟩ := rfl
theorem P_gl_CITES : P.gl n_CITES = some (.val (.tup [.str tAs, .str tSee])) := rfl
theorem P_gl_MOST_WORD : P.gl n_MOST_WORD = some (.val (.int 20)) := rfl
theorem mem_cites (s : Tx) : memP (.str s) [.str tAs, .str tSee] = some (decide (s = tAs) || decide (s = tSee)) := by
  have := memP_str (s := s) (ss := [tAs, tSee])
  simp only [List.map_cons, List.map_nil] at this
  rw [this]
  by_cases h : s = tAs <;> by_cases h2 : s = tSee <;> simp [h, h2]
theorem run_is_part_word (d : Nat) (s : Tx) (G : Gp) (hs : s.length < sizeL) : run P (d + 1) n_is_part [.val (.str s)] G = .ok (.val (.bl (wordOk s))) G := by
  rw [run_body P_is_part rfl]
  have h1 : s.length ≤ sizeL := by omega
  have lc : ∀ o, lcR [1] [1] .of (evC (lvl P d) (some (.cmp .nin (.v 1) (.g n_LETTERS)))) (ev (lvl P d) (.v 1)) [some (.val (.str s)), o] [.val (.str s)] G = .ok (.obj .own (.lst ((s.filter (fun c => !isLet c)).map fun c => .str [c]))) G := fun o => by
    refine lcR_signs _ (fun c hc => ?_) hs
    by_cases hf : c ∈ letters <;> simp [lcStep, bindT, wipeS, getS, P_gl_LETTERS, hf, isLet]
  have c0 : ((1 : Int) ≤ (s.length : Int)) ↔ 1 ≤ s.length := by omega
  have c1 : ((s.length : Int) ≤ 20) ↔ s.length ≤ 20 := by omega
  have hls : lockS [.v 0] G .of [.val (.str s)] = true := rfl
  by_cases a1 : 1 ≤ s.length
  · by_cases a2 : s.length ≤ 20
    · by_cases a3 : (s = tAs ∨ s = tSee)
      · have e : wordOk s = false := by
          unfold wordOk
          rcases a3 with a3 | a3 <;> simp [a3]
        have e2 : memP (.str s) [.str tAs, .str tSee] = some true := by
          rw [mem_cites]; rcases a3 with a3 | a3 <;> simp [a3]
        simp [d_is_part, startS, getS, isisR, isiR, content, h1, c0, c1, a1, a2, P_gl_MOST_WORD, P_gl_CITES, e2, e]
      · have a4 : ¬ s = tAs ∧ ¬ s = tSee := not_or.mp a3
        have e2 : memP (.str s) [.str tAs, .str tSee] = some false := by
          rw [mem_cites]; simp [a4]
        have e : wordOk s = s.all isLet := by
          unfold wordOk; simp [a1, a2, a4]
        have e3 : ((s.filter (fun c => !isLet c)).map fun c => (W.str [c])).isEmpty = s.all isLet := by
          rw [Bool.eq_iff_iff]
          simp [List.isEmpty_iff]
        simp [d_is_part, startS, getS, isisR, isiR, content, h1, c0, c1, a1, a2, P_gl_MOST_WORD, P_gl_CITES, e2, e, lc, hls, -List.isEmpty_map]
        simpa using e3
    · have e : wordOk s = false := by unfold wordOk; simp [a2]
      simp [d_is_part, startS, getS, isisR, isiR, content, h1, c0, c1, a1, a2, P_gl_MOST_WORD, e]
  · have e : wordOk s = false := by unfold wordOk; simp [a1]
    simp [d_is_part, startS, getS, isisR, isiR, content, h1, c0, a1, e]
theorem run_is_part_cite (d : Nat) (k l : Tx) (G : Gp) (hl : l.length + 2 ≤ sizeL) : run P (d + 3) n_is_part [.val (.tup [.str k, .str l])] G = .ok (.val (.bl (Pt.ok (.cite k l)))) G := by
  rw [run_body P_is_part rfl]
  have e := mem_cites k
  have e2 : (optW marksW (marksL l) = W.non) ↔ (marksL l).isSome = false := by
    cases marksL l <;> simp [marksW]
  by_cases h : (decide (k = tAs) || decide (k = tSee)) = true
  · rw [h] at e
    have e3 : Pt.ok (.cite k l) = (marksL l).isSome := by simp only [Pt.ok]; rw [h]; simp
    rw [e3]
    cases hm : marksL l with
    | none => simp [d_is_part, startS, getS, isisR, isiR, content, P_gl_CITES, e, callR, noTop, asArg, run_marks_of d l G hl, hm]
    | some m => simp [d_is_part, startS, getS, isisR, isiR, content, P_gl_CITES, e, callR, noTop, asArg, run_marks_of d l G hl, hm, marksW]
  · have h : (decide (k = tAs) || decide (k = tSee)) = false := by simpa using h
    rw [h] at e
    have e3 : Pt.ok (.cite k l) = false := by simp only [Pt.ok]; rw [h]; simp
    simp [d_is_part, startS, getS, isisR, isiR, content, P_gl_CITES, e, e3]
theorem run_is_part_nil (d : Nat) (G : Gp) : run P (d + 1) n_is_part [.val (.tup [])] G = .ok (.val (.bl false)) G := by
  rw [run_body P_is_part rfl]
  simp [d_is_part, startS, getS, isisR, isiR, content]
end Mi
namespace Mi
/-! ### deeds as texts: the parts -/
def numL (s : Tx) : Option Nat :=
  if 1 ≤ s.length ∧ s.length ≤ 3 ∧ s.all isFig = true then (if s = [48] ∨ s[0]? ≠ some 48 then some (readN s) else none) else none
def natW (n : Nat) : W := .int n
theorem P_number_of : P.fn n_number_of = some ⟨1, 2, d_number_of⟩ := rfl
theorem P_gl_MOST_FIGURES : P.gl n_MOST_FIGURES = some (.val (.int 3)) := rfl
theorem run_number_of (d : Nat) (s : Tx) (G : Gp) (hs : s.length < sizeL) : run P (d + 1) n_number_of [.val (.str s)] G = .ok (.val (optW natW (numL s))) G := by
  rw [run_body P_number_of rfl]
  have h1 : s.length ≤ sizeL := by omega
  have lc : lcR [1] [1] .of (evC (lvl P d) (some (.cmp .nin (.v 1) (.g n_FIGURES)))) (ev (lvl P d) (.v 1)) [some (.val (.str s)), none] [.val (.str s)] G = .ok (.obj .own (.lst ((s.filter (fun c => !isFig c)).map fun c => .str [c]))) G := by
    refine lcR_signs _ (fun c hc => ?_) hs
    have := fig_mem c
    by_cases hf : isFig c = true <;> simp [lcStep, bindT, wipeS, getS, P_gl_FIGURES, hf, this]
  have c0 : ((1 : Int) ≤ (s.length : Int)) ↔ 1 ≤ s.length := by omega
  have c1 : ((s.length : Int) ≤ 3) ↔ s.length ≤ 3 := by omega
  have hls : lockS [.v 0] G .of [.val (.str s)] = true := rfl
  by_cases a1 : 1 ≤ s.length
  · by_cases a2 : s.length ≤ 3
    · by_cases a3 : s.all isFig = true
      · have hf : s.filter (fun c => !isFig c) = [] := by
          rw [List.filter_eq_nil_iff]; intro a ha; simpa using List.all_eq_true.mp a3 a ha
        have hn : s ≠ [] := fun z => by rw [z] at a1; simp at a1
        have hi := fn_int_str (G := G) hn (by omega) a3
        have e : numL s = if s = [48] ∨ s[0]? ≠ some 48 then some (readN s) else none := by unfold numL; rw [if_pos ⟨a1, a2, a3⟩]
        simp [d_number_of, startS, getS, h1, c0, c1, a1, a2, P_gl_MOST_FIGURES, lc, hls, hf]
        rw [e]
        obtain ⟨x, r, rfl⟩ : ∃ x r, s = x :: r := by
          cases s with
          | nil => exact absurd rfl hn
          | cons x r => exact ⟨x, r, rfl⟩
        have h1' : r.length + 1 ≤ sizeL := h1
        by_cases z : x = 48
        · subst z
          by_cases y : r = []
          · subst y; simp [getS, hi, natW]
          · simp [hi, y, h1', getS]
        · simp [hi, z, h1', natW, getS]
      · have hf : s.filter (fun c => !isFig c) ≠ [] := by
          rw [Ne, List.filter_eq_nil_iff]; intro h; exact a3 (List.all_eq_true.mpr fun x hx => by simpa using h x hx)
        have e : numL s = none := by unfold numL; rw [if_neg]; intro h; exact a3 h.2.2
        simp [d_number_of, startS, getS, h1, c0, c1, a1, a2, P_gl_MOST_FIGURES, lc, hls, hf, e]
    · have e : numL s = none := by unfold numL; rw [if_neg]; intro h; exact a2 h.2.1
      simp [d_number_of, startS, getS, h1, c0, c1, a1, a2, P_gl_MOST_FIGURES, e]
  · have e : numL s = none := by unfold numL; rw [if_neg]; intro h; exact a1 h.1
    simp [d_number_of, startS, getS, h1, c0, a1, e]
def tBook : Tx := [98, 111, 111, 107]
def labL (s : Tx) (may : Bool) : Option Tx := if s = tBook ∧ may = true then some [] else if (marksL s).isSome then some s else none
theorem P_label_from : P.fn n_label_from = some ⟨2, 2, d_label_from⟩ := rfl
theorem P_gl_BOOK : P.gl n_BOOK = some (.val (.str tBook)) := rfl
theorem run_label_from (d : Nat) (s : Tx) (may : Bool) (G : Gp) (hs : s.length + 2 ≤ sizeL) : run P (d + 3) n_label_from [.val (.str s), .val (.bl may)] G = .ok (.val (optW .str (labL s may))) G := by
  rw [run_body P_label_from rfl]
  by_cases h1 : s = tBook
  · cases may with
    | true => simp [d_label_from, startS, getS, P_gl_BOOK, h1, labL]
    | false =>
      cases hm : marksL s with
      | none => simp [d_label_from, startS, getS, P_gl_BOOK, h1, labL, callR, noTop, asArg, h1 ▸ run_marks_of d s G hs, h1 ▸ hm]
      | some m => simp [d_label_from, startS, getS, P_gl_BOOK, h1, labL, callR, noTop, asArg, h1 ▸ run_marks_of d s G hs, h1 ▸ hm, marksW]
  · cases hm : marksL s with
    | none => simp [d_label_from, startS, getS, P_gl_BOOK, h1, labL, callR, noTop, asArg, run_marks_of d s G hs, hm]
    | some m => simp [d_label_from, startS, getS, P_gl_BOOK, h1, labL, callR, noTop, asArg, run_marks_of d s G hs, hm, marksW]
/-- the parts of a text's words -/
def partsL : List Tx → Option (List Pt)
  | [] => some []
  | [w] => if w = tAs ∨ w = tSee then none else if wordOk w then some [.word w] else none
  | w :: l :: r => if w = tAs ∨ w = tSee then (if (marksL l).isSome then (partsL r).map (.cite w l :: ·) else none) else if wordOk w then (partsL (l :: r)).map (.word w :: ·) else none
def partsW (ps : List Pt) : W := .tup (ps.map Pt.w)
theorem P_parts_from : P.fn n_parts_from = some ⟨1, 4, d_parts_from⟩ := rfl
theorem word_no {w : Tx} (h : w = tAs ∨ w = tSee) : wordOk w = false := by
  unfold wordOk
  rcases h with h | h <;> simp [h]
abbrev wp (d : Nat) : Wd := lvl P d
def pf_c : E := .cmp .ne (.v 2) (.lst [])
def pf_b : List S := [.asg (.v 3) (.idx (.v 2) (.c (.int 0))), .if_ (.cmp .inn (.v 3) (.tup [.c (.str [97, 115]), .c (.str [115, 101, 101])])) [.asg (.v 3) (.ite (.cmp .gt (.fn .len [.v 2]) (.c (.int 1))) (.tup [.v 3, .idx (.v 2) (.c (.int 1))]) (.tup [])), .asg (.v 2) (.slc (.v 2) (some (.c (.int 1))) none)] [], .if_ (.not (.call n_is_part [.v 3])) [.ret (.c (.non))] [], .mut 1 .append [.v 3], .asg (.v 2) (.slc (.v 2) (some (.c (.int 1))) none)]
def kd2 (b : Bool) : Kd := if b then .own else .frz
theorem pf_loop (d : Nat) (G : Gp) (a : Option R) : ∀ (n : Nat) (left : List Tx) (ps : List Pt) (b : Bool) (q : Option R), left.length < n → (∀ w ∈ left, w.length + 2 ≤ sizeL) → ps.length + left.length < sizeL →
    (((whileL (evC (lvl P (d + 3)) (some pf_c)) (execs (lvl P (d + 3)) pf_b) n [a, some (.obj .own (.lst (ps.map Pt.w))), some (.obj (kd2 b) (.lst (left.map .str))), q] G).then (execs (lvl P (d + 3)) [.ret (.fn .tuple [.v 1])])).fo = .ok (.val (optW partsW ((partsL left).map (ps ++ ·)))) G) := by
  intro n
  induction n with
  | zero => intro left ps b q h; omega
  | succ n ih =>
    intro left ps b q h hw hz
    have hps : (ps.map Pt.w).length < sizeL := by rw [List.length_map]; omega
    match left with
    | [] =>
      cases b <;> simp [whileL_succ, pf_c, kd2, getS, partsL, partsW]
    | [w] =>
      have hw1 := hw w (by simp)
      by_cases c : w = tAs ∨ w = tSee
      · have e2 : memP (.str w) [.str [97, 115], .str [115, 101, 101]] = some true := by
          have := mem_cites w
          simp only [tAs, tSee] at this c
          rw [this]; rcases c with c | c <;> simp [c]
        have := run_is_part_nil (d + 2) G
        cases b <;> simp [whileL_succ, pf_c, pf_b, kd2, getS, e2, callR, noTop, asArg, this, partsL, c]
      · have e2 : memP (.str w) [.str [97, 115], .str [115, 101, 101]] = some false := by
          have := mem_cites w
          have c' := not_or.mp c
          simp only [tAs, tSee] at this c'
          rw [this]; simp [c']
        have hr := run_is_part_word (d + 2) w G (by omega)
        by_cases c2 : wordOk w = true
        · have := ih [] (ps ++ [.word w]) true (some (.val (.str w))) (by simpa using h) (by simp) (by simpa using hz)
          rw [c2] at hr
          have ma : ∀ (σ : Sl) (x : Option R), mutR (lvl P (d + 3)) 1 .append [.v 3] [a, some (.obj .own (.lst (ps.map Pt.w))), x, some (.val (.str w))] G = .nx [a, some (.obj .own (.lst (ps.map Pt.w ++ [.str w]))), x, some (.val (.str w))] G := fun σ x => by
            rw [mut_app (x := .str w) (σ1 := [a, some (.obj .own (.lst (ps.map Pt.w))), x, some (.val (.str w))]) (G1 := G) rfl (by simp [getS]) rfl hps]; rfl
          simp only [List.map_append, List.map_cons, List.map_nil, Pt.w, kd2, if_true] at this
          cases b <;> simp [whileL_succ, pf_c, pf_b, kd2, getS, e2, callR, noTop, asArg, hr, ma [], partsL, c, c2] <;> simpa [pf_c, pf_b, partsL] using this
        · have c2 : wordOk w = false := by simpa using c2
          rw [c2] at hr
          cases b <;> simp [whileL_succ, pf_c, pf_b, kd2, getS, e2, callR, noTop, asArg, hr, partsL, c, c2]
    | w :: l :: r =>
      have hw1 := hw w (by simp)
      have hw2 := hw l (by simp)
      by_cases c : w = tAs ∨ w = tSee
      · have e2 : memP (.str w) [.str [97, 115], .str [115, 101, 101]] = some true := by
          have := mem_cites w
          simp only [tAs, tSee] at this c
          rw [this]; rcases c with c | c <;> simp [c]
        have hr := run_is_part_cite d w l G hw2
        have hk : Pt.ok (.cite w l) = (marksL l).isSome := by
          simp only [Pt.ok]
          rcases c with c | c <;> simp [c]
        rw [hk] at hr
        have c5 : ((1 : Int) < ((r.length : Int) + 1 + 1)) := by omega
        cases hm : (marksL l).isSome with
        | true =>
          rw [hm] at hr
          have := ih r (ps ++ [.cite w l]) true (some (.val (.tup [.str w, .str l]))) (by simp at h; omega) (fun x hx => hw x (by simp [hx])) (by simp at hz ⊢; omega)
          have ma : ∀ (x : Option R), mutR (lvl P (d + 3)) 1 .append [.v 3] [a, some (.obj .own (.lst (ps.map Pt.w))), x, some (.val (.tup [.str w, .str l]))] G = .nx [a, some (.obj .own (.lst (ps.map Pt.w ++ [.tup [.str w, .str l]]))), x, some (.val (.tup [.str w, .str l]))] G := fun x => by
            rw [mut_app (x := .tup [.str w, .str l]) (σ1 := [a, some (.obj .own (.lst (ps.map Pt.w))), x, some (.val (.tup [.str w, .str l]))]) (G1 := G) rfl (by simp [getS]) rfl hps]; rfl
          simp only [List.map_append, List.map_cons, List.map_nil, Pt.w, kd2, if_true] at this
          have hmp : (partsL (w :: l :: r)).map (ps ++ ·) = (partsL r).map ((ps ++ [.cite w l]) ++ ·) := by
            rw [partsL, if_pos c, hm, if_pos rfl, Option.map_map]
            congr 1; funext x; simp
          rw [hmp]
          cases b <;> simp [whileL_succ, pf_c, pf_b, kd2, getS, e2, callR, noTop, asArg, hr, ma, c5] <;> simpa [pf_c, pf_b] using this
        | false =>
          rw [hm] at hr
          have hmp : partsL (w :: l :: r) = none := by rw [partsL, if_pos c, hm]; simp
          cases b <;> simp [whileL_succ, pf_c, pf_b, kd2, getS, e2, callR, noTop, asArg, hr, c5, hmp]
      · have e2 : memP (.str w) [.str [97, 115], .str [115, 101, 101]] = some false := by
          have := mem_cites w
          have c' := not_or.mp c
          simp only [tAs, tSee] at this c'
          rw [this]; simp [c']
        have hr := run_is_part_word (d + 2) w G (by omega)
        by_cases c2 : wordOk w = true
        · have := ih (l :: r) (ps ++ [.word w]) true (some (.val (.str w))) (by simp at h ⊢; omega) (fun x hx => hw x (List.mem_cons_of_mem _ hx)) (by simp at hz ⊢; omega)
          rw [c2] at hr
          have ma : ∀ (x : Option R), mutR (lvl P (d + 3)) 1 .append [.v 3] [a, some (.obj .own (.lst (ps.map Pt.w))), x, some (.val (.str w))] G = .nx [a, some (.obj .own (.lst (ps.map Pt.w ++ [.str w]))), x, some (.val (.str w))] G := fun x => by
            rw [mut_app (x := .str w) (σ1 := [a, some (.obj .own (.lst (ps.map Pt.w))), x, some (.val (.str w))]) (G1 := G) rfl (by simp [getS]) rfl hps]; rfl
          simp only [List.map_append, List.map_cons, List.map_nil, Pt.w, kd2, if_true] at this
          have hmp : (partsL (w :: l :: r)).map (ps ++ ·) = (partsL (l :: r)).map ((ps ++ [.word w]) ++ ·) := by
            rw [partsL, if_neg c, if_pos c2, Option.map_map]
            congr 1; funext x; simp
          rw [hmp]
          cases b <;> simp [whileL_succ, pf_c, pf_b, kd2, getS, e2, callR, noTop, asArg, hr, ma] <;> simpa [pf_c, pf_b] using this
        · have c2 : wordOk w = false := by simpa using c2
          rw [c2] at hr
          have hmp : partsL (w :: l :: r) = none := by rw [partsL, if_neg c, c2]; simp
          cases b <;> simp [whileL_succ, pf_c, pf_b, kd2, getS, e2, callR, noTop, asArg, hr, hmp]
theorem run_parts_from (d : Nat) (G : Gp) (ws : List Tx) (hl : ws.length < 100000) (hw : ∀ w ∈ ws, w.length + 2 ≤ sizeL) : run P (d + 4) n_parts_from [.obj .own (.lst (ws.map .str))] G = .ok (.val (optW partsW (partsL ws))) G := by
  rw [run_body P_parts_from rfl]
  have := pf_loop d G (some (.obj .frz (.lst (ws.map .str)))) turns ws [] false none hl hw (by have : sizeL = 16777216 := rfl; simp; omega)
  simp only [List.map_nil, List.nil_append, Option.map_id'] at this
  simp [d_parts_from, startS, getS]
  simpa [pf_c, pf_b, kd2] using this
end Mi
namespace Mi
/-! ### deeds -/
def tInsert : Tx := [105, 110, 115, 101, 114, 116]
def tStrike : Tx := [115, 116, 114, 105, 107, 101]
def tMove : Tx := [109, 111, 118, 101]
def tText : Tx := [116, 101, 120, 116]
def tCount : Tx := [99, 111, 117, 110, 116]
inductive Dd where
  | insert (o : Tx) (pl : Nat) (ps : List Pt) | strike (l : Tx) | move (l o : Tx) (pl : Nat) | text (l : Tx) (ps : List Pt) | count (o : Tx)
def Dd.w : Dd → W
  | .insert o pl ps => .tup [.str tInsert, .str o, .int pl, partsW ps]
  | .strike l => .tup [.str tStrike, .str l]
  | .move l o pl => .tup [.str tMove, .str l, .str o, .int pl]
  | .text l ps => .tup [.str tText, .str l, partsW ps]
  | .count o => .tup [.str tCount, .str o]
def deedW (x : Nat × Dd) : W := .tup [.int x.1, x.2.w]
def deedL : List Tx → Option (Nat × Dd)
  | a :: w :: l :: r =>
    if w = tInsert then (match r with
      | p :: ps => (numL a).bind fun n => (labL l true).bind fun o => (numL p).bind fun pl => (partsL ps).map fun ps => (n, .insert o pl ps)
      | [] => none)
    else if w = tStrike then (if r = [] then (numL a).bind fun n => (labL l false).map fun l => (n, .strike l) else none)
    else if w = tMove then (match r with
      | [o, p] => (numL a).bind fun n => (labL l false).bind fun l => (labL o true).bind fun o => (numL p).map fun pl => (n, .move l o pl)
      | _ => none)
    else if w = tText then (numL a).bind fun n => (labL l false).bind fun l => (partsL r).map fun ps => (n, .text l ps)
    else if w = tCount then (if r = [] then (numL a).bind fun n => (labL l true).map fun l => (n, .count l) else none)
    else none
  | _ => none
theorem P_deed_of : P.fn n_deed_of = some ⟨1, 7, d_deed_of⟩ := rfl
def sizes : List (W × W) := [(.str tInsert, .int 4), (.str tStrike, .int 3), (.str tMove, .int 5), (.str tText, .int 3), (.str tCount, .int 3)]
theorem P_gl_SIZES : P.gl n_SIZES = some (.obj .top (.dct sizes)) := rfl
theorem run_deed_of (d : Nat) (G : Gp) (ws : List Tx) (hl : ws.length < 100000) (hw : ∀ w ∈ ws, w.length + 2 ≤ sizeL) : run P (d + 5) n_deed_of [.obj .own (.lst (ws.map .str))] G = .ok (.val (optW deedW (deedL ws))) G := by
  rw [run_body P_deed_of rfl]
  match ws with
  | [] => simp [d_deed_of, startS, getS, deedL]
  | [a] => simp [d_deed_of, startS, getS, deedL]
  | [a, w] => simp [d_deed_of, startS, getS, deedL]
  | a :: w :: l :: r =>
    have ha := hw a (by simp)
    have hwl := hw w (by simp)
    have hll := hw l (by simp)
    have c3 : ¬ ((r.length : Int) + 1 + 1 + 1 < 3) := by omega
    have c33 : ((r.length : Int) + 1 + 1 + 1 = 3) ↔ r = [] := by
      rw [← List.length_eq_zero_iff]; omega
    have rn := fun (x : Tx) (hx : x.length + 2 ≤ sizeL) => run_number_of (d + 3) x G (by omega)
    have rl := fun (x : Tx) (m : Bool) (hx : x.length + 2 ≤ sizeL) => run_label_from (d + 1) x m G hx
    by_cases w1 : w = tInsert
    · subst w1
      cases r with
      | nil => simp [d_deed_of, startS, getS, deedL, P_gl_SIZES, sizes]
      | cons p ps =>
        have hp := hw p (by simp)
        have rp := run_parts_from d G ps (by simp at hl; omega) fun x hx => hw x (by simp [hx])
        have c4 : ¬ ((ps.length : Int) + 1 + 1 + 1 + 1 < 3) := by omega
        have c5 : ¬ ((ps.length : Int) + 1 + 1 + 1 + 1 < 4) := by omega
        cases e1 : numL a <;> cases e2 : labL l true <;> cases e3 : numL p <;> cases e4 : partsL ps <;> simp [d_deed_of, startS, getS, deedL, P_gl_SIZES, sizes, tInsert, tStrike, tMove, tText, tCount, memP, plainW, cmpOk, rn _ ha, rn _ hp, rl _ _ hll, rp, c4, c5, e1, e2, e3, e4, natW, partsW, deedW, Dd.w]
    · by_cases w2 : w = tStrike
      · subst w2
        cases r with
        | nil => cases e1 : numL a <;> cases e2 : labL l false <;> simp [d_deed_of, startS, getS, deedL, P_gl_SIZES, sizes, tInsert, tStrike, tMove, tText, tCount, memP, plainW, cmpOk, rn _ ha, rl _ _ hll, e1, e2, natW, deedW, Dd.w]
        | cons p ps =>
          have c4 : ¬ ((ps.length : Int) + 1 + 1 + 1 + 1 < 3) := by omega
          have c5 : ¬ ((ps.length : Int) + 1 + 1 + 1 + 1 = 3) := by omega
          cases e1 : numL a <;> cases e2 : labL l false <;> simp [d_deed_of, startS, getS, deedL, P_gl_SIZES, sizes, tInsert, tStrike, tMove, tText, tCount, memP, plainW, cmpOk, rn _ ha, rl _ _ hll, c4, c5, e1, e2, natW]
      · by_cases w3 : w = tMove
        · subst w3
          match r with
          | [] => simp [d_deed_of, startS, getS, deedL, P_gl_SIZES, sizes, tInsert, tStrike, tMove, tText, tCount]
          | [o] => simp [d_deed_of, startS, getS, deedL, P_gl_SIZES, sizes, tInsert, tStrike, tMove, tText, tCount]
          | [o, p] =>
            have ho := hw o (by simp)
            have hp := hw p (by simp)
            cases e1 : numL a <;> cases e2 : labL l false <;> cases e3 : labL o true <;> cases e4 : numL p <;> simp [d_deed_of, startS, getS, deedL, P_gl_SIZES, sizes, tInsert, tStrike, tMove, tText, tCount, memP, plainW, cmpOk, rn _ ha, rl _ _ hll, rl _ _ ho, rn _ hp, e1, e2, e3, e4, natW, deedW, Dd.w]
          | o :: p :: x :: xs =>
            have ho := hw o (by simp)
            have hp := hw p (by simp)
            have c4 : ¬ ((xs.length : Int) + 1 + 1 + 1 + 1 + 1 + 1 < 3) := by omega
            have c5 : ¬ ((xs.length : Int) + 1 + 1 + 1 + 1 + 1 + 1 < 5) := by omega
            have c6 : ¬ ((xs.length : Int) + 1 + 1 + 1 + 1 + 1 + 1 = 5) := by omega
            cases e1 : numL a <;> cases e2 : labL l false <;> simp [d_deed_of, startS, getS, deedL, P_gl_SIZES, sizes, tInsert, tStrike, tMove, tText, tCount, memP, plainW, cmpOk, rn _ ha, rl _ _ hll, rl _ _ ho, rn _ hp, c4, c5, c6, e1, e2, natW]
        · by_cases w4 : w = tText
          · subst w4
            have rp := run_parts_from d G r (by simp at hl; omega) fun x hx => hw x (by simp [hx])
            cases e1 : numL a <;> cases e2 : labL l false <;> cases e4 : partsL r <;> simp [d_deed_of, startS, getS, deedL, P_gl_SIZES, sizes, tInsert, tStrike, tMove, tText, tCount, memP, plainW, cmpOk, rn _ ha, rl _ _ hll, rp, c3, e1, e2, e4, natW, partsW, deedW, Dd.w]
          · by_cases w5 : w = tCount
            · subst w5
              cases r with
              | nil => cases e1 : numL a <;> cases e2 : labL l true <;> simp [d_deed_of, startS, getS, deedL, P_gl_SIZES, sizes, tInsert, tStrike, tMove, tText, tCount, memP, plainW, cmpOk, rn _ ha, rl _ _ hll, e1, e2, natW, deedW, Dd.w]
              | cons p ps =>
                have c4 : ¬ ((ps.length : Int) + 1 + 1 + 1 + 1 < 3) := by omega
                have c5 : ¬ ((ps.length : Int) + 1 + 1 + 1 + 1 = 3) := by omega
                cases e1 : numL a <;> cases e2 : labL l true <;> simp [d_deed_of, startS, getS, deedL, P_gl_SIZES, sizes, tInsert, tStrike, tMove, tText, tCount, memP, plainW, cmpOk, rn _ ha, rl _ _ hll, c4, c5, e1, e2, natW]
            · simp [d_deed_of, startS, getS, deedL, P_gl_SIZES, sizes, w1, w2, w3, w4, w5, c3]
end Mi
namespace Mi
/-! ### texts of deeds -/
inductive Rd where
  | ok (ds : List (Nat × Dd)) | no (n : Nat)
def Rd.cons (d : Nat × Dd) : Rd → Rd
  | .ok ds => .ok (d :: ds)
  | .no n => .no n
def readR : Nat → List Tx → Rd
  | _, [] => .ok []
  | n, row :: rest => match deedL (splitT 32 row) with
    | none => .no n
    | some d => if n = 200 then .no n else (readR (n + 1) rest).cons d
def Rd.fo (acc : List W) (G : Gp) : Rd → FO
  | .ok ds => .ok (.obj .own (.lst (acc ++ ds.map deedW))) G
  | .no n => .exc n_BadText (.int n) G
theorem P_read : P.fn n_read = some ⟨1, 5, d_read⟩ := rfl
theorem P_gl_MOST_DEEDS : P.gl n_MOST_DEEDS = some (.val (.int 200)) := rfl
def rd_b : List S := [.asg (.v 4) (.call n_deed_of [.mt (.v 3) .split [.c (.str [32])]]), .if_ (.or (.cmp .isn (.v 4) (.c (.non))) (.cmp .eq (.v 2) (.g n_MOST_DEEDS))) [.raise n_BadText (some (.v 2))] [], .mut 1 .append [.v 4]]
theorem rd_loop (d : Nat) (G : Gp) (a : Option R) {chk : Gp → Bool} (hc : chk G = true) : ∀ (rows : List Tx) (n : Nat) (acc : List W) (q2 q3 q4 : Option R), (∀ r ∈ rows, r.length + 3 ≤ 100000) → acc.length + rows.length < sizeL →
    ((forL (turnL [2, 3] (execs (lvl P (d + 5)) rd_b)) chk (enumW n (rows.map .str)) [a, some (.obj .own (.lst acc)), q2, q3, q4] G).then (execs (lvl P (d + 5)) [.ret (.v 1)])).fo = (readR n rows).fo acc G := by
  intro rows
  induction rows with
  | nil =>
    intro n acc q2 q3 q4 h1 h2
    simp [enumW, forL_nil hc, getS, readR, Rd.fo]
  | cons row rest ih =>
    intro n acc q2 q3 q4 h1 h2
    have hr := h1 row (by simp)
    have h2 : acc.length + (rest.length + 1) < sizeL := h2
    have hz : (100000 : Nat) < sizeL := by decide
    obtain ⟨sl, sm⟩ := splitT_len 32 row
    have hd := run_deed_of d G (splitT 32 row) (by omega) fun w hw => by have := sm w hw; omega
    have hs : row.length + 2 ≤ sizeL := by omega
    rw [List.map_cons, enumW, forL_cons hc]
    cases e : deedL (splitT 32 row) with
    | none =>
      rw [e] at hd
      simp [rd_b, getS, hs, hd, excR, readR, e, Rd.fo]
    | some dd =>
      rw [e] at hd
      have hn : optW deedW (some dd) ≠ .non := by simp [deedW]
      by_cases h200 : n = 200
      · subst h200
        simp [rd_b, getS, hs, hd, excR, readR, e, Rd.fo, deedW, P_gl_MOST_DEEDS]
      · have h3 : ¬ ((n : Int) = 200) := by omega
        have ma : ∀ (x y : Option R), mutR (lvl P (d + 5)) 1 .append [.v 4] [a, some (.obj .own (.lst acc)), x, y, some (.val (deedW dd))] G = .nx [a, some (.obj .own (.lst (acc ++ [deedW dd]))), x, y, some (.val (deedW dd))] G := fun x y => by
          rw [mut_app (x := deedW dd) (σ1 := [a, some (.obj .own (.lst acc)), x, y, some (.val (deedW dd))]) (G1 := G) rfl (by simp [getS]) rfl (by omega)]; rfl
        have := ih (n + 1) (acc ++ [deedW dd]) (some (.val (.int n))) (some (.val (.str row))) (some (.val (deedW dd))) (fun r hr => h1 r (List.mem_cons_of_mem _ hr)) (by simp; omega)
        have hnn : ¬ (deedW dd = W.non) := by simp [deedW]
        have e2 : readR n (row :: rest) = (readR (n + 1) rest).cons dd := by rw [readR, e]; simp [h200]
        rw [e2]
        have e3 : ((readR (n + 1) rest).cons dd).fo acc G = (readR (n + 1) rest).fo (acc ++ [deedW dd]) G := by
          cases readR (n + 1) rest <;> simp [Rd.cons, Rd.fo]
        rw [e3, ← this]
        simp [rd_b, getS, hs, hd, hnn, h3, P_gl_MOST_DEEDS]
        simp [ma]
def readT (t : Tx) : Rd := if t = [] then .ok [] else readR 0 (splitT 10 t)
theorem run_read (d : Nat) (G : Gp) (t : Tx) (ht : t.length + 2 ≤ sizeL) (hr : ∀ r ∈ splitT 10 t, r.length + 3 ≤ 100000) : run P (d + 6) n_read [.val (.str t)] G = (readT t).fo [] G := by
  rw [run_body P_read rfl]
  obtain ⟨sl, sm⟩ := splitT_len 10 t
  by_cases h : t = []
  · subst h
    have := rd_loop d G (some (.val (.str []))) (chk := chkW ([R.obj .own (.lst [])].map (kindR G)) .enm [.obj .own (.lst [])] (enumW 0 [])) chk_enm [] 0 [] none none none (by simp) (by decide)
    have hls : lockS [.ite (.cmp .ne (.v 0) (.c (.str []))) (.mt (.v 0) .split [.c (.str [10])]) (.lst [])] G .enm [.obj .own (.lst [])] = true := rfl
    simp [d_read, startS, getS, hls, forR_eq (walk_enm (G := G) (k := .own) (l := [])) rfl]
    simpa [readT, readR, rd_b] using this
  · have := rd_loop d G (some (.val (.str t))) (chk := chkW ([R.obj .own (.lst ((splitT 10 t).map .str))].map (kindR G)) .enm [.obj .own (.lst ((splitT 10 t).map .str))] (enumW 0 ((splitT 10 t).map .str))) chk_enm (splitT 10 t) 0 [] none none none hr (by simp; omega)
    have hls : lockS [.ite (.cmp .ne (.v 0) (.c (.str []))) (.mt (.v 0) .split [.c (.str [10])]) (.lst [])] G .enm [.obj .own (.lst ((splitT 10 t).map .str))] = true := rfl
    simp [d_read, startS, getS, h, ht, hls, forR_eq (walk_enm (G := G) (k := .own) (l := (splitT 10 t).map .str)) rfl]
    simpa [readT, rd_b, h] using this
end Mi
namespace Mi
/-! ### deeds written -/
def Pt.ws : Pt → List Tx
  | .word s => [s]
  | .cite k l => [k, l]
def textWs (ps : List Pt) : List Tx := ps.flatMap Pt.ws
def ob (o : Tx) : Tx := if o = [] then tBook else o
def rowWs : Nat × Dd → List Tx
  | (n, .insert o pl ps) => [showN n, tInsert, ob o, showN pl] ++ textWs ps
  | (n, .strike l) => [showN n, tStrike, ob l]
  | (n, .move l o pl) => [showN n, tMove, ob l, ob o, showN pl]
  | (n, .text l ps) => [showN n, tText, ob l] ++ textWs ps
  | (n, .count o) => [showN n, tCount, ob o]
def rowT (x : Nat × Dd) : Tx := joinT [32] (rowWs x)
def writeT (ds : List (Nat × Dd)) : Tx := joinT [10] (ds.map rowT)
theorem P_words_of_text : P.fn n_words_of_text = some ⟨1, 3, d_words_of_text⟩ := rfl
def wt_b : List S := [.mut 1 .extend [.ite (.isi (.v 2) [.tuple]) (.fn .list [.v 2]) (.lst [.v 2])]]
theorem wt_loop (d : Nat) (G : Gp) (a : Option R) {chk : Gp → Bool} (hc : chk G = true) : ∀ (ps : List Pt) (acc : List Tx) (q : Option R), acc.length + 2 * ps.length ≤ sizeL →
    ((forL (turnL [2] (execs (lvl P d) wt_b)) chk (ps.map Pt.w) [a, some (.obj .own (.lst (acc.map .str))), q] G).then (execs (lvl P d) [.ret (.v 1)])).fo = .ok (.obj .own (.lst ((acc ++ textWs ps).map .str))) G := by
  intro ps
  induction ps with
  | nil => intro acc q h; simp [forL_nil hc, getS, textWs]
  | cons p ps ih =>
    intro acc q h
    simp only [List.length_cons] at h
    rw [List.map_cons, forL_cons hc]
    cases p with
    | word s =>
      have := ih (acc ++ [s]) (some (.val (.str s))) (by simp; omega)
      have me : ∀ es, evs (lvl P d) es [a, some (.obj .own (.lst (acc.map .str))), some (.val (.str s))] G = .ok [.obj .own (.lst [.str s])] G → mutR (lvl P d) 1 .extend es [a, some (.obj .own (.lst (acc.map .str))), some (.val (.str s))] G = .nx [a, some (.obj .own (.lst (acc.map .str ++ [.str s]))), some (.val (.str s))] G := fun es he => by
        rw [mut_ext (xs := acc.map .str) (ys := [.str s]) rfl he (by simp; omega)]; rfl
      have h2 := me [.ite (.isi (.v 2) [.tuple]) (.fn .list [.v 2]) (.lst [.v 2])] (by simp [getS, isisR, isiR, content])
      simp only [List.map_append, List.map_cons, List.map_nil] at this
      simp [wt_b, Pt.w, h2, textWs, Pt.ws]
      simpa [wt_b, textWs] using this
    | cite k l =>
      have := ih (acc ++ [k, l]) (some (.val (.tup [.str k, .str l]))) (by simp; omega)
      have me : ∀ es, evs (lvl P d) es [a, some (.obj .own (.lst (acc.map .str))), some (.val (.tup [.str k, .str l]))] G = .ok [.obj .own (.lst [.str k, .str l])] G → mutR (lvl P d) 1 .extend es [a, some (.obj .own (.lst (acc.map .str))), some (.val (.tup [.str k, .str l]))] G = .nx [a, some (.obj .own (.lst (acc.map .str ++ [.str k, .str l]))), some (.val (.tup [.str k, .str l]))] G := fun es he => by
        rw [mut_ext (xs := acc.map .str) (ys := [.str k, .str l]) rfl he (by simp; omega)]; rfl
      have h2 := me [.ite (.isi (.v 2) [.tuple]) (.fn .list [.v 2]) (.lst [.v 2])] (by simp [getS, isisR, isiR, content])
      simp only [List.map_append, List.map_cons, List.map_nil] at this
      simp [wt_b, Pt.w, h2, textWs, Pt.ws]
      simpa [wt_b, textWs] using this
theorem run_words_of_text (d : Nat) (G : Gp) (ps : List Pt) (h : 2 * ps.length ≤ sizeL) : run P (d + 1) n_words_of_text [.val (partsW ps)] G = .ok (.obj .own (.lst ((textWs ps).map .str))) G := by
  rw [run_body P_words_of_text rfl]
  have := wt_loop d G (some (.val (partsW ps))) (chk := chkW ([R.val (.tup (ps.map Pt.w))].map (kindR G)) .of [.val (.tup (ps.map Pt.w))] (ps.map Pt.w)) chk_tup ps [] none (by simpa using h)
  have hls : lockS [.v 0] G .of [.val (.tup (ps.map Pt.w))] = true := rfl
  simp only [List.nil_append, List.map_nil] at this
  simp [d_words_of_text, startS, getS, partsW, hls, forR_eq (walk_tup G (ps.map Pt.w)) rfl]
  simpa [wt_b, partsW] using this
theorem P_written : P.fn n_written = some ⟨1, 5, d_written⟩ := rfl
def wr_b : List S := [.asg (.v 4) (.lst [.fn .str [.v 2], .idx (.v 3) (.c (.int 0)), .ite (.cmp .ne (.idx (.v 3) (.c (.int 1))) (.c (.str []))) (.idx (.v 3) (.c (.int 1))) (.g n_BOOK)]), .if_ (.cmp .eq (.idx (.v 3) (.c (.int 0))) (.c (.str [105, 110, 115, 101, 114, 116]))) [.asg (.v 4) (.bin .add (.bin .add (.v 4) (.lst [.fn .str [.idx (.v 3) (.c (.int 2))]])) (.call n_words_of_text [.idx (.v 3) (.c (.int 3))]))] [], .if_ (.cmp .eq (.idx (.v 3) (.c (.int 0))) (.c (.str [109, 111, 118, 101]))) [.asg (.v 4) (.bin .add (.v 4) (.lst [.ite (.cmp .ne (.idx (.v 3) (.c (.int 2))) (.c (.str []))) (.idx (.v 3) (.c (.int 2))) (.g n_BOOK), .fn .str [.idx (.v 3) (.c (.int 3))]]))] [], .if_ (.cmp .eq (.idx (.v 3) (.c (.int 0))) (.c (.str [116, 101, 120, 116]))) [.asg (.v 4) (.bin .add (.v 4) (.call n_words_of_text [.idx (.v 3) (.c (.int 2))]))] [], .mut 1 .append [.mt (.c (.str [32])) .join [.v 4]]]
def Dd.small : Dd → Prop
  | .insert _ pl ps => pl < 10000 ∧ ps.length ≤ 1000
  | .move _ _ pl => pl < 10000
  | .text _ ps => ps.length ≤ 1000
  | _ => True
def rowZ (x : Nat × Dd) : Nat := ((rowWs x).map (·.length)).sum + (rowWs x).length
theorem ob_eq (o : Tx) : (if o = [] then tBook else o) = ob o := rfl
theorem ev_ob (d : Nat) (G : Gp) (a b c e : Option R) (xs : List W) (k : Int) (o : Tx) (h : (ixOf k xs.length).bind (fun k => xs[k]?) = some (.str o)) : ev (lvl P d) (.ite (.cmp .ne (.idx (.v 3) (.c (.int k))) (.c (.str []))) (.idx (.v 3) (.c (.int k))) (.g n_BOOK)) [a, b, c, some (.val (.tup xs)), e] G = .ok (.val (.str (ob o))) G := by
  by_cases z : o = []
  · subst z; simp [getS, h, P_gl_BOOK, ob]
  · simp [getS, h, ob, z]
def row1 (n : Nat) (w l : Tx) : List W := [.str (showN n), .str w, .str (ob l)]
/-- the row's head -/
theorem wr_head (d : Nat) (G : Gp) (a b e : Option R) (n : Nat) (hn : n < 10000) (w l : Tx) (r : List W) : exec (lvl P d) (.asg (.v 4) (.lst [.fn .str [.v 2], .idx (.v 3) (.c (.int 0)), .ite (.cmp .ne (.idx (.v 3) (.c (.int 1))) (.c (.str []))) (.idx (.v 3) (.c (.int 1))) (.g n_BOOK)])) [a, b, some (.val (.int n)), some (.val (.tup (.str w :: .str l :: r))), e] G = .nx [a, b, some (.val (.int n)), some (.val (.tup (.str w :: .str l :: r))), some (.obj .own (.lst (row1 n w l)))] G := by
  have h2 : ((n : Int)) < 10000000000 := by omega
  have := ev_ob d G a b (some (.val (.int n))) e (.str w :: .str l :: r) 1 l (by simp)
  simp [-ev_ite, this, getS, h2, row1]
theorem wr_skip (d : Nat) (G : Gp) (a b c e : Option R) (w v : Tx) (h : w ≠ v) (r : List W) (p : List S) : exec (lvl P d) (.if_ (.cmp .eq (.idx (.v 3) (.c (.int 0))) (.c (.str v))) p []) [a, b, c, some (.val (.tup (.str w :: r))), e] G = .nx [a, b, c, some (.val (.tup (.str w :: r))), e] G := by
  simp [getS, h]
theorem wr_take (d : Nat) (G : Gp) (a b c e : Option R) (w : Tx) (r : List W) (p : List S) : exec (lvl P d) (.if_ (.cmp .eq (.idx (.v 3) (.c (.int 0))) (.c (.str w))) p []) [a, b, c, some (.val (.tup (.str w :: r))), e] G = execs (lvl P d) p [a, b, c, some (.val (.tup (.str w :: r))), e] G := by
  simp [getS]
theorem wr_end (d : Nat) (G : Gp) (a : Option R) (acc : List W) (ha : acc.length < sizeL) (x : Nat × Dd) (hz : rowZ x ≤ sizeL) (q2 q3 : Option R) : exec (lvl P (d + 1)) (.mut 1 .append [.mt (.c (.str [32])) .join [.v 4]]) [a, some (.obj .own (.lst acc)), q2, q3, some (.obj .own (.lst ((rowWs x).map .str)))] G = .nx [a, some (.obj .own (.lst (acc ++ [.str (rowT x)]))), q2, q3, some (.obj .own (.lst ((rowWs x).map .str)))] G := by
  have hj : ((rowWs x).map (·.length)).sum + (rowWs x).length * ([32] : Tx).length ≤ sizeL := by simpa [rowZ] using hz
  rw [exec_mut, mut_app (x := .str (rowT x)) (σ1 := [a, some (.obj .own (.lst acc)), q2, q3, some (.obj .own (.lst ((rowWs x).map .str)))]) (G1 := G) rfl ?_ rfl ha]
  · rfl
  · have := mt_join (G := G) (k := .brw 4) hj
    simp only [evM_def, ev_mt, ev_c, bind_ok, kind_str, opt_some, evs_cons, ev_v, evs_nil, getS, List.getElem?_cons_succ, List.getElem?_cons_zero, this, takM_val, rowT]
theorem wr_turn (d : Nat) (G : Gp) (a : Option R) (acc : List W) (q2 q3 q4 : Option R) (x : Nat × Dd) (hx : x.1 < 10000) (hs : x.2.small) (hz : rowZ x ≤ sizeL) (ha : acc.length < sizeL) :
    turnL [2, 3] (execs (lvl P (d + 1)) wr_b) (deedW x) [a, some (.obj .own (.lst acc)), q2, q3, q4] G = .nx [a, some (.obj .own (.lst (acc ++ [.str (rowT x)]))), some (.val (.int x.1)), some (.val x.2.w), some (.obj .own (.lst ((rowWs x).map .str)))] G := by
  obtain ⟨n, dd⟩ := x
  have fin := wr_end d G a acc ha (n, dd) hz
  rw [deedW, turn_two, wr_b]
  show execs (lvl P (d + 1)) _ [a, some (.obj .own (.lst acc)), some (.val (.int n)), some (.val dd.w), q4] G = _
  have sk := fun (c e : Option R) (w v : Tx) (h : w ≠ v) (r : List W) (p : List S) => wr_skip (d + 1) G a (some (.obj .own (.lst acc))) c e w v h r p
  have tk := fun (c e : Option R) (w : Tx) (r : List W) (p : List S) => wr_take (d + 1) G a (some (.obj .own (.lst acc))) c e w r p
  cases dd with
  | insert o pl ps =>
    obtain ⟨p1, p2⟩ := hs
    have h3 : ((pl : Int)) < 10000000000 := by omega
    have hz3 : 2 * ps.length ≤ sizeL := by have : sizeL = 16777216 := rfl; omega
    have hw := run_words_of_text d G ps hz3
    have hl2 : 4 + (textWs ps).length ≤ sizeL := by simp only [rowZ, rowWs, List.length_append, List.length_cons, List.length_nil] at hz; omega
    rw [execs_cons, Dd.w, wr_head _ _ _ _ _ _ hx, then_nx, execs_cons, tInsert, tk, execs_cons]
    have e : exec (lvl P (d + 1)) (.asg (.v 4) (.bin .add (.bin .add (.v 4) (.lst [.fn .str [.idx (.v 3) (.c (.int 2))]])) (.call n_words_of_text [.idx (.v 3) (.c (.int 3))]))) [a, some (.obj .own (.lst acc)), some (.val (.int n)), some (.val (.tup [.str tInsert, .str o, .int pl, partsW ps])), some (.obj .own (.lst (row1 n tInsert o)))] G = .nx [a, some (.obj .own (.lst acc)), some (.val (.int n)), some (.val (.tup [.str tInsert, .str o, .int pl, partsW ps])), some (.obj .own (.lst ((rowWs (n, .insert o pl ps)).map .str)))] G := by
      simp [getS, h3, hw, row1, hl2, rowWs]
    simp only [tInsert] at e
    rw [e, then_nx, execs_nil, then_nx, execs_cons, sk _ _ _ _ (by decide), then_nx, execs_cons, sk _ _ _ _ (by decide), then_nx, execs_cons, fin, then_nx, execs_nil]
  | strike l =>
    rw [execs_cons, Dd.w, wr_head _ _ _ _ _ _ hx, then_nx, execs_cons, tStrike, sk _ _ _ _ (by decide), then_nx, execs_cons, sk _ _ _ _ (by decide), then_nx, execs_cons, sk _ _ _ _ (by decide), then_nx, execs_cons]
    exact congrArg (fun z => SO.then z (execs (lvl P (d + 1)) [])) (fin _ _)
  | move l o pl =>
    have h3 : ((pl : Int)) < 10000000000 := by simp only [Dd.small] at hs; omega
    rw [execs_cons, Dd.w, wr_head _ _ _ _ _ _ hx, then_nx, execs_cons, tMove, sk _ _ _ _ (by decide), then_nx, execs_cons, tk, execs_cons]
    have e : exec (lvl P (d + 1)) (.asg (.v 4) (.bin .add (.v 4) (.lst [.ite (.cmp .ne (.idx (.v 3) (.c (.int 2))) (.c (.str []))) (.idx (.v 3) (.c (.int 2))) (.g n_BOOK), .fn .str [.idx (.v 3) (.c (.int 3))]]))) [a, some (.obj .own (.lst acc)), some (.val (.int n)), some (.val (.tup [.str tMove, .str l, .str o, .int pl])), some (.obj .own (.lst (row1 n tMove l)))] G = .nx [a, some (.obj .own (.lst acc)), some (.val (.int n)), some (.val (.tup [.str tMove, .str l, .str o, .int pl])), some (.obj .own (.lst ((rowWs (n, .move l o pl)).map .str)))] G := by
      have := ev_ob (d + 1) G a (some (.obj .own (.lst acc))) (some (.val (.int n))) (some (.obj .own (.lst (row1 n tMove l)))) [.str tMove, .str l, .str o, .int pl] 2 o (by simp)
      simp only [row1] at this
      simp [-ev_ite, this, getS, h3, row1, rowWs]
    simp only [tMove] at e
    rw [e, then_nx, execs_nil, then_nx, execs_cons, sk _ _ _ _ (by decide), then_nx, execs_cons, fin, then_nx, execs_nil]
  | text l ps =>
    have hz3 : 2 * ps.length ≤ sizeL := by have : sizeL = 16777216 := rfl; simp only [Dd.small] at hs; omega
    have hw := run_words_of_text d G ps hz3
    have hl2 : 3 + (textWs ps).length ≤ sizeL := by simp only [rowZ, rowWs, List.length_append, List.length_cons, List.length_nil] at hz; omega
    rw [execs_cons, Dd.w, wr_head _ _ _ _ _ _ hx, then_nx, execs_cons, tText, sk _ _ _ _ (by decide), then_nx, execs_cons, sk _ _ _ _ (by decide), then_nx, execs_cons, tk, execs_cons]
    have e : exec (lvl P (d + 1)) (.asg (.v 4) (.bin .add (.v 4) (.call n_words_of_text [.idx (.v 3) (.c (.int 2))]))) [a, some (.obj .own (.lst acc)), some (.val (.int n)), some (.val (.tup [.str tText, .str l, partsW ps])), some (.obj .own (.lst (row1 n tText l)))] G = .nx [a, some (.obj .own (.lst acc)), some (.val (.int n)), some (.val (.tup [.str tText, .str l, partsW ps])), some (.obj .own (.lst ((rowWs (n, .text l ps)).map .str)))] G := by
      simp [getS, hw, row1, hl2, rowWs]
    simp only [tText] at e
    rw [e, then_nx, execs_nil, then_nx, execs_cons, fin, then_nx, execs_nil]
  | count l =>
    rw [execs_cons, Dd.w, wr_head _ _ _ _ _ _ hx, then_nx, execs_cons, tCount, sk _ _ _ _ (by decide), then_nx, execs_cons, sk _ _ _ _ (by decide), then_nx, execs_cons, sk _ _ _ _ (by decide), then_nx, execs_cons]
    exact congrArg (fun z => SO.then z (execs (lvl P (d + 1)) [])) (fin _ _)
theorem wr_loop (d : Nat) (G : Gp) (a : Option R) {chk : Gp → Bool} (hc : chk G = true) : ∀ (ds : List (Nat × Dd)) (acc : List Tx) (q2 q3 q4 : Option R), (∀ x ∈ ds, x.1 < 10000 ∧ x.2.small ∧ rowZ x ≤ sizeL) → acc.length + ds.length < sizeL → ((acc ++ ds.map rowT).map (·.length)).sum + (acc.length + ds.length) ≤ sizeL →
    ((forL (turnL [2, 3] (execs (lvl P (d + 1)) wr_b)) chk (ds.map deedW) [a, some (.obj .own (.lst (acc.map .str))), q2, q3, q4] G).then (execs (lvl P (d + 1)) [.ret (.mt (.c (.str [10])) .join [.v 1])])).fo = .ok (.val (.str (joinT [10] (acc ++ ds.map rowT)))) G := by
  intro ds
  induction ds with
  | nil =>
    intro acc q2 q3 q4 h1 h2 h3
    have hj : (acc.map (·.length)).sum + acc.length * ([10] : Tx).length ≤ sizeL := by simpa using h3
    have := mt_join (G := G) (k := .brw 1) hj
    simp [forL_nil hc, getS, this]
  | cons x ds ih =>
    intro acc q2 q3 q4 h1 h2 h3
    obtain ⟨x1, x2, x3⟩ := h1 x (by simp)
    simp only [List.length_cons] at h2 h3
    have := ih (acc ++ [rowT x]) (some (.val (.int x.1))) (some (.val x.2.w)) (some (.obj .own (.lst ((rowWs x).map .str)))) (fun y hy => h1 y (List.mem_cons_of_mem _ hy)) (by simp; omega) (by simp at h3 ⊢; omega)
    rw [List.map_cons, forL_cons hc, wr_turn d G a _ _ _ _ x x1 x2 x3 (by simp; omega), loop_nx]
    simpa using this
theorem run_written (d : Nat) (G : Gp) (b : Bool) (ds : List (Nat × Dd)) (h1 : ∀ x ∈ ds, x.1 < 10000 ∧ x.2.small ∧ rowZ x ≤ sizeL) (h2 : ds.length < sizeL) (h3 : ((ds.map rowT).map (·.length)).sum + ds.length ≤ sizeL) : run P (d + 2) n_written [.obj (kd2 b) (.lst (ds.map deedW))] G = .ok (.val (.str (writeT ds))) G := by
  rw [run_body P_written rfl]
  have := fun k a => wr_loop d G a (chk := chkW ([R.obj k (.lst (ds.map deedW))].map (kindR G)) .of [.obj k (.lst (ds.map deedW))] (ds.map deedW)) chk_of ds [] none none none h1 (by simpa using h2) (by simpa using h3)
  simp only [List.nil_append, List.map_nil] at this
  have hls : ∀ k, lockS [.v 0] G .of [.obj k (.lst (ds.map deedW))] = true := fun _ => rfl
  have hw : ∀ k, walk G .of [.obj k (.lst (ds.map deedW))] = some (ds.map deedW) := fun k => walk_obj G k _
  cases b
  · have t := this .frz (some (.obj .frz (.lst (ds.map deedW))))
    simp [d_written, startS, getS, kd2, hls, forR_eq (hw .frz) rfl]
    simpa [wr_b, writeT] using t
  · have t := this (.brw 0) (some (.obj .frz (.lst (ds.map deedW))))
    simp [d_written, startS, getS, kd2, hls, forR_eq (hw (.brw 0)) rfl, frz1]
    simpa [wr_b, writeT] using t
end Mi
namespace Mi
/-! ### what laws draw -/
def tenE18 : Int := 10 ^ 18
structure St (G : Gp) (p : Nat) : Prop where
  ex : ∃ (ns : List Int) (a m l : Int), G[0]? = some (.frz (.lst (ns.map .int))) ∧ G[p]? = some (.obj (.lst [.ref 0, .int a, .int m, .int l])) ∧ 0 ≤ a ∧ 0 ≤ m ∧ 0 ≤ l
theorem St.ne {G : Gp} {p : Nat} (h : St G p) : p ≠ 0 := fun z => by
  obtain ⟨ns, a, m, l, h0, h1, _⟩ := h.ex
  subst z
  rw [h0] at h1; cases h1
/-- nothing but the state is another -/
def Dr (p : Nat) (G G' : Gp) : Prop := ∃ g, G' = G.set p g
theorem Dr.trans {p : Nat} {G1 G2 G3 : Gp} (a : Dr p G1 G2) (b : Dr p G2 G3) : Dr p G1 G3 := by
  obtain ⟨g, rfl⟩ := a
  obtain ⟨g2, rfl⟩ := b
  exact ⟨g2, by rw [List.set_set]⟩
theorem Dr.refl {p : Nat} {G : Gp} (h : p < G.length) : Dr p G G := ⟨G[p], by rw [List.set_getElem_self]⟩
theorem Dr.get {p : Nat} {G G' : Gp} (a : Dr p G G') {i : Nat} (h : i ≠ p) : G'[i]? = G[i]? := by
  obtain ⟨g, rfl⟩ := a
  rw [List.getElem?_set_ne h.symm]
theorem Dr.len {p : Nat} {G G' : Gp} (a : Dr p G G') : G'.length = G.length := by
  obtain ⟨g, rfl⟩ := a
  simp
theorem P_drawn : P.fn n__law_drawn = some ⟨2, 4, d__law_drawn⟩ := rfl
theorem idx_ref {G : Gp} {p : Nat} {xs : List W} {i : Int} (h : G[p]? = some (.obj (.lst xs))) : idxR G (.val (.ref p)) (.val (.int i)) = (ixOf i xs.length).bind fun k => xs[k]? := by
  simp [idxR, content, h]
theorem idx_refF {G : Gp} {p : Nat} {xs : List W} {i : Int} (h : G[p]? = some (.frz (.lst xs))) : idxR G (.val (.ref p)) (.val (.int i)) = (ixOf i xs.length).bind fun k => xs[k]? := by
  simp [idxR, content, h]
theorem len_refF {G : Gp} {p : Nat} {xs : List W} (h : G[p]? = some (.frz (.lst xs))) : fnR .len G [.val (.ref p)] = some (.val (.int xs.length)) := by
  simp [fnR, one1, lenR, content, h]
/-- x[i] = e, x a shared list -/
theorem st_ref {w : Wd} {σ : Sl} {G : Gp} {j p : Nat} {xs : List W} {i : Int} {k : Nat} {x : W} {e : E} (hs : σ[j]? = some (some (.val (.ref p)))) (he : ev w e σ G = .ok (.val (.int i)) G) (hp : G[p]? = some (.obj (.lst xs))) (hk : ixOf i xs.length = some k) : stW w (.sub (.v j) e) x σ G = .nx σ (G.set p (.obj (.lst (xs.set k x)))) := by
  simp [stW, hs, he, hp, putO, hk]
theorem run_drawn (d : Nat) (G : Gp) (p : Nat) (many : Int) (h : St G p) (h1 : 1 ≤ many) (h2 : many < 1073741824) :
    ∃ r G', run P (d + 1) n__law_drawn [.val (.ref p), .val (.int many)] G = .ok (.val (.int r)) G' ∧ 0 ≤ r ∧ r < many ∧ Dr p G G' ∧ St G' p := by
  have hne := h.ne
  obtain ⟨ns, a, m, l, h0, hp, ha, hm, hl⟩ := h.ex
  have hpl : p < G.length := (List.getElem?_eq_some_iff.mp hp).1
  have hmp : 0 < many := by omega
  have fin : ∀ a' m' l' : Int, 0 ≤ a' → 0 ≤ m' → 0 ≤ l' → Dr p G (G.set p (.obj (.lst [.ref 0, .int a', .int m', .int l']))) ∧ St (G.set p (.obj (.lst [.ref 0, .int a', .int m', .int l']))) p := fun a' m' l' q1 q2 q3 =>
    ⟨⟨_, rfl⟩, ⟨ns, a', m', l', by rw [List.getElem?_set_ne hne]; exact h0, by rw [List.getElem?_set_self hpl], q1, q2, q3⟩⟩
  rw [run_body P_drawn rfl]
  have ix := fun (G' : Gp) (xs : List W) (i : Int) (q : G'[p]? = some (.obj (.lst xs))) => idx_ref (i := i) q
  by_cases c1 : 0 < l
  · refine ⟨l % many, _, ?_, Int.emod_nonneg _ (by omega), Int.emod_lt_of_pos _ hmp, fin a m (l / many) ha hm (Int.ediv_nonneg hl (by omega))⟩
    have s1 := fun (σ : Sl) (x : W) (hσ : σ[0]? = some (some (.val (.ref p)))) => st_ref (w := lvl P d) (σ := σ) (G := G) (x := x) (e := .c (.int 3)) (k := 3) hσ rfl hp rfl
    simp [d__law_drawn, startS, getS, ix G _ _ hp, c1, hmp, h2, s1]
  · have c1' : l ≤ 0 := by omega
    have hl0 : l = 0 := by omega
    subst hl0
    have s1 := fun (σ : Sl) (x : W) (hσ : σ[0]? = some (some (.val (.ref p)))) => st_ref (w := lvl P d) (σ := σ) (G := G) (x := x) (e := .c (.int 1)) (k := 1) hσ rfl hp rfl
    have hp1 : (G.set p (.obj (.lst [.ref 0, .int (a + 1), .int m, .int 0])))[p]? = some (.obj (.lst [.ref 0, .int (a + 1), .int m, .int 0])) := by rw [List.getElem?_set_self hpl]
    have h01 : (G.set p (.obj (.lst [.ref 0, .int (a + 1), .int m, .int 0])))[0]? = some (.frz (.lst (ns.map .int))) := by rw [List.getElem?_set_ne hne]; exact h0
    have ln := len_refF h01
    rw [List.length_map] at ln
    by_cases c2 : a + 1 ≤ (ns.length : Int)
    · have hx : a.toNat < ns.length := by omega
      have e0 : a + 1 - 1 = a := by omega
      have hix : (ixOf a (ns.map (fun i => W.int i)).length).bind (fun k => (ns.map (fun i => W.int i))[k]?) = some (.int ns[a.toNat]) := by
        have : ixOf a (ns.map (fun i => W.int i)).length = some a.toNat := by
          unfold ixOf
          rw [if_pos ha, if_pos (by rw [List.length_map]; omega)]
        rw [this]
        simp [hx]
      have i0 := idx_refF (i := a) h01
      rw [hix] at i0
      generalize hcell : ns[a.toNat] = cell at i0
      have s3 := fun (σ : Sl) (x : W) (hσ : σ[0]? = some (some (.val (.ref p)))) => st_ref (w := lvl P d) (σ := σ) (x := x) (e := .c (.int 3)) (k := 3) hσ rfl hp1 rfl
      have hb : binR .pow (G.set p (.obj (.lst [.ref 0, .int (a + 1), .int m, .int 0]))) (.val (.int 10)) (.val (.int 18)) = some (.val (.int 1000000000000000000)) := by
        simp [binR]
      by_cases c3 : (1000000000000000000 : Int) ≤ cell
      · refine ⟨cell % many, _, ?_, Int.emod_nonneg _ (by omega), Int.emod_lt_of_pos _ hmp, fin (a + 1) m (cell / many) (by omega) hm (Int.ediv_nonneg (by omega) (by omega))⟩
        simp [d__law_drawn, startS, getS, ix G _ _ hp, hmp, h2, s1, ix _ _ _ hp1, ln, c2, i0, hb, c3, s3]
      · refine ⟨cell % many, _, ?_, Int.emod_nonneg _ (by omega), Int.emod_lt_of_pos _ hmp, fin (a + 1) m 0 (by omega) hm (by omega)⟩
        simp [d__law_drawn, startS, getS, ix G _ _ hp, hmp, h2, s1, ix _ _ _ hp1, ln, c2, i0, hb, c3, s3]
    · have s2 := fun (σ : Sl) (x : W) (hσ : σ[0]? = some (some (.val (.ref p)))) => st_ref (w := lvl P d) (σ := σ) (x := x) (e := .c (.int 2)) (k := 2) hσ rfl hp1 rfl
      have hm2 : 0 ≤ (m * 48271 + 11) % 2147483647 := Int.emod_nonneg _ (by omega)
      refine ⟨(m * 48271 + 11) % 2147483647 / 7 % many, _, ?_, Int.emod_nonneg _ (by omega), Int.emod_lt_of_pos _ hmp, fin (a + 1) ((m * 48271 + 11) % 2147483647) 0 (by omega) hm2 (by omega)⟩
      have hp2 : (G.set p (.obj (.lst [.ref 0, .int (a + 1), .int ((m * 48271 + 11) % 2147483647), .int 0])))[p]? = some (.obj (.lst [.ref 0, .int (a + 1), .int ((m * 48271 + 11) % 2147483647), .int 0])) := by rw [List.getElem?_set_self hpl]
      simp [d__law_drawn, startS, getS, ix G _ _ hp, hmp, h2, s1, ix _ _ _ hp1, ln, c2, s2, ix _ _ _ hp2]
end Mi
namespace Mi
theorem P_start : P.fn n__law_start = some ⟨1, 3, d__law_start⟩ := rfl
def sta_b : List S := [.asg (.v 1) (.bin .mod (.bin .add (.bin .add (.bin .mul (.v 1) (.c (.int 48271))) (.v 2)) (.c (.int 7))) (.c (.int 2147483647)))]
theorem sta_loop (d : Nat) (G : Gp) {chk : Gp → Bool} (hc : chk G = true) : ∀ (ns : List Int) (m : Int) (q : Option R), 0 ≤ m →
    ∃ m', 0 ≤ m' ∧ ((forL (turnL [2] (execs (lvl P d) sta_b)) chk (ns.map .int) [some (.val (.ref 0)), some (.val (.int m)), q] G).then (execs (lvl P d) [.ret (.lst [.v 0, .c (.int 0), .v 1, .c (.int 0)])])).fo = .ok (.obj .own (.lst [.ref 0, .int 0, .int m', .int 0])) G := by
  intro ns
  induction ns with
  | nil => intro m q h; exact ⟨m, h, by simp [forL_nil hc, getS]⟩
  | cons n ns ih =>
    intro m q h
    obtain ⟨m', h1, h2⟩ := ih ((m * 48271 + n + 7) % 2147483647) (some (.val (.int n))) (Int.emod_nonneg _ (by omega))
    refine ⟨m', h1, ?_⟩
    rw [List.map_cons, forL_cons hc]
    simp [sta_b, getS]
    simpa [sta_b] using h2
theorem run_start (d : Nat) (G : Gp) (ns : List Int) (h0 : G[0]? = some (.frz (.lst (ns.map .int)))) : ∃ m, 0 ≤ m ∧ run P (d + 1) n__law_start [.val (.ref 0)] G = .ok (.obj .own (.lst [.ref 0, .int 0, .int m, .int 0])) G := by
  have hw : walk G .of [.val (.ref 0)] = some (ns.map .int) := by
    show items G (.val (.ref 0)) = _
    simp [items, content, h0]
  have hl : lockOf G .of [.val (.ref 0)] = none := by simp [lockOf, h0]
  have hls : lockS [.v 0] G .of [.val (.ref 0)] = true := rfl
  obtain ⟨m, h1, h2⟩ := sta_loop d G (chk := chkW ([R.val (.ref 0)].map (kindR G)) .of [.val (.ref 0)] (ns.map .int)) (by simp [chkW, hw]) ns 1 none (by decide)
  refine ⟨m, h1, ?_⟩
  rw [run_body P_start rfl]
  simp [d__law_start, startS, getS, hls, forR_eq hw hl]
  simpa [sta_b] using h2
/-! ### the same -/
def nice : Nat → W → Bool
  | _, .ref _ => false
  | 0, .tup _ => false
  | n + 1, .tup xs => decide (xs.length < 100000) && xs.all (nice n)
  | _, _ => true
theorem nice_flat : ∀ (n : Nat) (w : W), nice n w = true → flatN n w = true := by
  intro n
  induction n with
  | zero => intro w h; cases w <;> first | rfl | cases h
  | succ n ih =>
    intro w h
    cases w with
    | tup xs =>
      simp only [nice, Bool.and_eq_true, List.all_eq_true] at h
      simp only [flatN, List.all_eq_true]
      exact fun x hx => ih x (h.2 x hx)
    | _ => first | rfl | cases h
theorem flat_mono : ∀ {m n : Nat}, m ≤ n → ∀ w, flatN m w = true → flatN n w = true := by
  intro m
  induction m with
  | zero =>
    intro n h w hw
    cases w with
    | tup _ => cases hw
    | ref _ => cases hw
    | _ => cases n <;> rfl
  | succ m ih =>
    intro n h w hw
    match n, h with
    | n + 1, h =>
      cases w with
      | tup xs =>
        simp only [flatN, List.all_eq_true] at hw ⊢
        exact fun x hx => ih (by omega) x (hw x hx)
      | ref _ => cases hw
      | _ => rfl
theorem nice_flatW {n : Nat} (hn : n ≤ 20) {w : W} (h : nice n w = true) : flatW w = true := flat_mono hn w (nice_flat n w h)
theorem nice_mono : ∀ {m n : Nat}, m ≤ n → ∀ w, nice m w = true → nice n w = true := by
  intro m
  induction m with
  | zero =>
    intro n h w hw
    cases w with
    | tup _ => cases hw
    | ref _ => cases hw
    | _ => cases n <;> rfl
  | succ m ih =>
    intro n h w hw
    match n, h with
    | n + 1, h =>
      cases w with
      | tup xs =>
        simp only [nice, Bool.and_eq_true, List.all_eq_true] at hw ⊢
        exact ⟨hw.1, fun x hx => ih (by omega) x (hw.2 x hx)⟩
      | ref _ => cases hw
      | _ => rfl
mutual
theorem cmpOk_refl : ∀ w : W, cmpOk w w = true
  | .tup xs => by rw [cmpOk]; exact cmpOks_refl xs
  | .non => rfl
  | .bl _ => rfl
  | .int _ => rfl
  | .str _ => rfl
  | .ref _ => rfl
theorem cmpOks_refl : ∀ xs : List W, cmpOks xs xs = true
  | [] => rfl
  | x :: xs => by rw [cmpOks, cmpOk_refl x, cmpOks_refl xs]; rfl
end
theorem eqL_refl {n : Nat} (hn : n ≤ 20) {xs : List W} (h : xs.all (nice n) = true) : eqL xs xs = some true := by
  have hws : ws xs = true := by
    simp only [ws, List.all_eq_true] at h ⊢
    exact fun x hx => nice_flatW hn (h x hx)
  rw [eqL_ok (cmpOks_refl xs) hws hws]; simp
theorem mem_rng : ∀ (n : Nat) (a : Int) (x : W), x ∈ rngW a n → ∃ i : Nat, x = .int (a + i) ∧ i < n
  | n + 1, a, x, h => by
    rw [rngW, List.mem_cons] at h
    rcases h with rfl | h
    · exact ⟨0, by simp, by omega⟩
    · obtain ⟨i, e, hi⟩ := mem_rng n (a + 1) x h
      refine ⟨i + 1, ?_, by omega⟩
      rw [e]; congr 1; push_cast; omega
theorem rng_len : ∀ (n : Nat) (a : Int), (rngW a n).length = n
  | 0, _ => rfl
  | n + 1, a => by rw [rngW, List.length_cons, rng_len n]
theorem P_same : P.fn n__law_same = some ⟨2, 3, d__law_same⟩ := rfl
@[simp] theorem walk_rngN {G : Gp} {i : Int} (h : small i = true) : walk G .rng [.val (.int i)] = some (rngW 0 i.toNat) := by simp only [walk]; rw [if_pos h]
theorem same_lc (d : Nat) (G : Gp) (x y x' y' : R) (n : Nat) (hn : n < 100000) (g0 : ∀ q, getS [some x, some y, q] 0 = some x') (g1 : ∀ q, getS [some x, some y, q] 1 = some y')
    (hx : ∀ i : Nat, i < n → ∃ u v, idxR G x' (.val (.int i)) = some u ∧ idxR G y' (.val (.int i)) = some v ∧ run P d n__law_same [.val u, .val v] G = .ok (.val (.bl true)) G) :
    lcR [2] [2] .rng (evC (lvl P d) (some (.not (.call n__law_same [.idx (.v 0) (.v 2), .idx (.v 1) (.v 2)])))) (ev (lvl P d) (.v 2)) [some x, some y, none] [.val (.int n)] G = .ok (.obj .own (.lst [])) G := by
  have hs : small (n : Int) = true := (small_iff _).mpr (by omega)
  have hw : walk G .rng [.val (.int n)] = some (rngW 0 n) := by rw [walk_rngN hs]; rfl
  rw [lcR_pure (its := rngW 0 n) (fun _ => none) hw rfl (fun z hz => ?_) (by rw [rng_len]; have : sizeL = 16777216 := rfl; omega)]
  · simp
  · obtain ⟨i, rfl, hi⟩ := mem_rng n 0 z hz
    obtain ⟨u, v, e1, e2, hr⟩ := hx i hi
    have e0 : ((0 : Int) + i) = (i : Int) := by omega
    rw [e0]
    have g2 : ∀ q, getS [some x, some y, some (.val q)] 2 = some (.val q) := fun q => rfl
    simp [lcStep, bindT, wipeS, g0, g1, g2, e1, e2, hr]
theorem nice_atom {n : Nat} {w : W} (h : nice 0 w = true) : nice n w = true := nice_mono (Nat.zero_le n) w h
theorem at_nat {xs : List W} {i : Nat} (hi : i < xs.length) : (ixOf (i : Int) xs.length).bind (fun k => xs[k]?) = some xs[i] := by
  rw [ixOf_nat hi]; simp [hi]
theorem same_val : ∀ (n d : Nat) (G : Gp) (w : W), nice n w = true → run P (d + n + 1) n__law_same [.val w, .val w] G = .ok (.val (.bl true)) G := by
  intro n
  induction n with
  | zero =>
    intro d G w h
    rw [run_body P_same rfl]
    cases w with
    | tup _ => cases h
    | ref _ => cases h
    | non => simp [d__law_same, startS, getS, isisR, isiR, content]
    | bl b => simp [d__law_same, startS, getS, isisR, isiR, content]
    | int i => simp [d__law_same, startS, getS, isisR, isiR, content]
    | str s => simp [d__law_same, startS, getS, isisR, isiR, content]
  | succ n ih =>
    intro d G w h
    have at_ : nice 0 w = true → run P (d + (n + 1) + 1) n__law_same [.val w, .val w] G = .ok (.val (.bl true)) G := fun h0 => by
      have := ih (d + 1) G w (nice_atom h0)
      rwa [show d + 1 + n + 1 = d + (n + 1) + 1 by omega] at this
    cases w with
    | tup xs =>
      simp only [nice, Bool.and_eq_true, decide_eq_true_eq, List.all_eq_true] at h
      rw [run_body P_same rfl]
      have lc := same_lc (d + (n + 1)) G (.val (.tup xs)) (.val (.tup xs)) (.val (.tup xs)) (.val (.tup xs)) xs.length h.1 (fun _ => rfl) (fun _ => rfl) fun i hi => ⟨xs[i], xs[i], by rw [idx_tup, at_nat hi], by rw [idx_tup, at_nat hi], ih d G xs[i] (h.2 _ (List.getElem_mem hi))⟩
      have hls : lockS [.fn .len [.v 1]] G .rng [.val (.int xs.length)] = true := rfl
      simp [d__law_same, startS, getS, isisR, isiR, content, lc, hls]
    | ref _ => cases h
    | non => exact at_ rfl
    | bl b => exact at_ rfl
    | int i => exact at_ rfl
    | str s => exact at_ rfl
/-- two lists -/
theorem same_lst (n d : Nat) (G : Gp) (k k2 : Bool) (xs : List W) (hl : xs.length < 100000) (h : xs.all (nice n) = true) : run P (d + n + 2) n__law_same [.obj (kd2 k) (.lst xs), .obj (kd2 k2) (.lst xs)] G = .ok (.val (.bl true)) G := by
  simp only [List.all_eq_true] at h
  rw [run_body P_same rfl]
  have hls : lockS [.fn .len [.v 1]] G .rng [.val (.int xs.length)] = true := rfl
  have lc := fun (x y x' y' : R) (g0 : ∀ q, getS [some x, some y, q] 0 = some x') (g1 : ∀ q, getS [some x, some y, q] 1 = some y') (e0 : ∃ k, x' = .obj k (.lst xs)) (e1 : ∃ k, y' = .obj k (.lst xs)) => same_lc (d + n + 1) G x y x' y' xs.length hl g0 g1 fun i hi => by
    obtain ⟨k, rfl⟩ := e0
    obtain ⟨k2, rfl⟩ := e1
    exact ⟨xs[i], xs[i], by rw [idx_lst, at_nat hi], by rw [idx_lst, at_nat hi], same_val n d G xs[i] (h _ (List.getElem_mem hi))⟩
  cases k <;> cases k2
  · simp [d__law_same, startS, getS, kd2, isisR, isiR, content, hls, lc (.obj .frz (.lst xs)) (.obj .frz (.lst xs)) _ _ (fun _ => rfl) (fun _ => rfl) ⟨_, rfl⟩ ⟨_, rfl⟩]
  · simp [d__law_same, startS, getS, kd2, isisR, isiR, content, hls, lc (.obj .frz (.lst xs)) (.obj .own (.lst xs)) _ _ (fun _ => rfl) (fun _ => rfl) ⟨_, rfl⟩ ⟨_, rfl⟩]
  · simp [d__law_same, startS, getS, kd2, isisR, isiR, content, hls, lc (.obj .own (.lst xs)) (.obj .frz (.lst xs)) _ _ (fun _ => rfl) (fun _ => rfl) ⟨_, rfl⟩ ⟨_, rfl⟩]
  · simp [d__law_same, startS, getS, kd2, isisR, isiR, content, hls, lc (.obj .own (.lst xs)) (.obj .own (.lst xs)) _ _ (fun _ => rfl) (fun _ => rfl) ⟨_, rfl⟩ ⟨_, rfl⟩]
end Mi
namespace Mi
theorem ev_draw (d : Nat) (G : Gp) (p j : Nat) (k : Int) (σ : Sl) (hs : getS σ j = some (.val (.ref p))) (h : St G p) (h1 : 1 ≤ k) (h2 : k < 1073741824) :
    ∃ r G', ev (lvl P (d + 1)) (.call n__law_drawn [.v j, .c (.int k)]) σ G = .ok (.val (.int r)) G' ∧ 0 ≤ r ∧ r < k ∧ Dr p G G' ∧ St G' p := by
  obtain ⟨r, G', e, a, b, c, s⟩ := run_drawn d G p k h h1 h2
  exact ⟨r, G', by simp [hs, e], a, b, c, s⟩
theorem pick {xs : List W} {r : Int} (h0 : 0 ≤ r) (h1 : r < xs.length) : ∃ x ∈ xs, (ixOf r xs.length).bind (fun k => xs[k]?) = some x := by
  have hl : r.toNat < xs.length := by omega
  refine ⟨xs[r.toNat], List.getElem_mem hl, ?_⟩
  unfold ixOf
  rw [if_pos h0, if_pos h1]
  simp [hl]
theorem pick_lst {G : Gp} {k : Kd} {xs : List W} {r : Int} (h0 : 0 ≤ r) (h1 : r < xs.length) : ∃ x ∈ xs, idxR G (.obj k (.lst xs)) (.val (.int r)) = some x := by
  obtain ⟨x, hx, e⟩ := pick h0 h1
  exact ⟨x, hx, by rw [idx_lst, e]⟩
/-- turns that draw -/
theorem lcL_draw {chk : Gp → Bool} {step : W → Gp → EO (Option W)} (I : Gp → Prop) (Q : W → Prop) (hc : ∀ G, I G → chk G = true) : ∀ (its : List W) (G : Gp), I G → (∀ x ∈ its, ∀ G, I G → ∃ y G', step x G = .ok (some y) G' ∧ I G' ∧ Q y) →
    ∃ ys G', lcL chk step its G = .ok ys G' ∧ I G' ∧ ys.length = its.length ∧ ∀ y ∈ ys, Q y
  | [], G, hI, _ => ⟨[], G, by rw [lcL, if_pos (hc G hI)], hI, rfl, fun y h => by cases h⟩
  | x :: xs, G, hI, h => by
    obtain ⟨y, G1, e1, h1, q1⟩ := h x List.mem_cons_self G hI
    obtain ⟨ys, G2, e2, h2, l2, q2⟩ := lcL_draw I Q hc xs G1 h1 fun z hz => h z (List.mem_cons_of_mem _ hz)
    refine ⟨y :: ys, G2, ?_, h2, by simp [l2], fun z hz => ?_⟩
    · rw [lcL, if_pos (hc G hI), e1]
      simp [e2]
    · rcases List.mem_cons.mp hz with rfl | hz
      · exact q1
      · exact q2 z hz
theorem all_of {α : Type} {f : α → W} {p : α → Prop} : ∀ {ys : List W}, (∀ y ∈ ys, ∃ x, p x ∧ y = f x) → ∃ xs : List α, ys = xs.map f ∧ ∀ x ∈ xs, p x
  | [], _ => ⟨[], rfl, fun x h => by cases h⟩
  | y :: ys, h => by
    obtain ⟨x, hx, e⟩ := h y List.mem_cons_self
    obtain ⟨xs, e2, hxs⟩ := all_of fun z hz => h z (List.mem_cons_of_mem _ hz)
    refine ⟨x :: xs, by rw [e, e2]; rfl, fun z hz => ?_⟩
    rcases List.mem_cons.mp hz with rfl | hz
    · exact hx
    · exact hxs z hz
end Mi
namespace Mi
/-! ### law k13, plainly -/
def labs : List Tx := [[49], [50, 46, 51], [48, 97], [49, 50, 98, 46, 49], [57, 57, 122, 46, 57, 57, 122, 46, 57, 57, 122, 46, 57, 57, 122], [51, 46, 48, 99, 46, 55]]
def wrds : List Tx := [[97, 115, 105, 115], [98, 111, 111, 107], [105, 110, 115, 101, 114, 116], [122], [97, 98, 99, 100, 101, 102, 103, 104, 105, 106, 107, 108, 109, 110, 111, 112, 113, 114, 115, 116]]
def PtOk (p : Pt) : Prop := match p with
  | .word s => s ∈ wrds
  | .cite k l => (k = tAs ∨ k = tSee) ∧ l ∈ labs
def DdOk : Nat × Dd → Prop
  | (n, .insert o pl ps) => n < 1000 ∧ (o ∈ labs ∨ o = []) ∧ pl < 1000 ∧ ps.length ≤ 10 ∧ ∀ p ∈ ps, PtOk p
  | (n, .strike l) => n < 1000 ∧ l ∈ labs
  | (n, .move l o pl) => n < 1000 ∧ l ∈ labs ∧ (o ∈ labs ∨ o = []) ∧ pl < 1000
  | (n, .text l ps) => n < 1000 ∧ l ∈ labs ∧ ps.length ≤ 10 ∧ ∀ p ∈ ps, PtOk p
  | (n, .count o) => n < 1000 ∧ (o ∈ labs ∨ o = [])
theorem num_show : ∀ n, n < 1000 → numL (showN n) = some n ∧ (showN n).all isFig = true ∧ 1 ≤ (showN n).length ∧ (showN n).length ≤ 3 := by
  have h : ∀ n : Fin 1000, numL (showN n) = some n.val ∧ (showN n).all isFig = true ∧ 1 ≤ (showN n).length ∧ (showN n).length ≤ 3 := by decide +kernel
  exact fun n hn => h ⟨n, hn⟩
theorem labs_ok : ∀ l ∈ labs, (marksL l).isSome = true ∧ l ≠ tBook ∧ l ≠ [] ∧ l.length ≤ 20 ∧ l.all (fun c => decide (c ≠ 32) && decide (c ≠ 10)) = true := by decide +kernel
theorem wrds_ok : ∀ l ∈ wrds, wordOk l = true ∧ l ≠ [] ∧ l.length ≤ 20 ∧ l.all (fun c => decide (c ≠ 32) && decide (c ≠ 10)) = true ∧ ¬ (l = tAs ∨ l = tSee) := by decide +kernel
theorem partsL_word {w : Tx} (r : List Tx) (h1 : ¬ (w = tAs ∨ w = tSee)) (h2 : wordOk w = true) : partsL (w :: r) = (partsL r).map (.word w :: ·) := by
  cases r with
  | nil => rw [show partsL [w] = (if w = tAs ∨ w = tSee then none else if wordOk w then some [.word w] else none) from by rw [partsL], if_neg h1, if_pos h2]; rfl
  | cons l r => rw [partsL, if_neg h1, if_pos h2]
theorem parts_back : ∀ ps : List Pt, (∀ p ∈ ps, PtOk p) → partsL (textWs ps) = some ps
  | [], _ => rfl
  | p :: ps, h => by
    have ih := parts_back ps fun q hq => h q (List.mem_cons_of_mem _ hq)
    have hp := h p List.mem_cons_self
    cases p with
    | word s =>
      obtain ⟨h1, _, _, _, h2⟩ := wrds_ok s hp
      show partsL (s :: textWs ps) = _
      rw [partsL_word _ h2 h1, ih]; rfl
    | cite k l =>
      show partsL (k :: l :: textWs ps) = _
      rw [partsL, if_pos hp.1, (labs_ok l hp.2).1, if_pos rfl, ih]; rfl
theorem lab_back {l : Tx} (h : l ∈ labs) (may : Bool) : labL (ob l) may = some l ∧ labL l may = some l := by
  obtain ⟨h1, h2, h3, _⟩ := labs_ok l h
  have e : ob l = l := by unfold ob; rw [if_neg h3]
  rw [e]
  have : labL l may = some l := by
    unfold labL
    rw [if_neg (fun z => h2 z.1), h1]; rfl
  exact ⟨this, this⟩
theorem labo_back {o : Tx} (h : o ∈ labs ∨ o = []) : labL (ob o) true = some o := by
  rcases h with h | h
  · exact (lab_back h true).1
  · subst h; rfl
theorem deed_back (x : Nat × Dd) (h : DdOk x) : deedL (rowWs x) = some x := by
  obtain ⟨n, dd⟩ := x
  cases dd with
  | insert o pl ps =>
    obtain ⟨h1, h2, h3, h4, h5⟩ := h
    show deedL (showN n :: tInsert :: ob o :: (showN pl :: textWs ps)) = _
    simp only [deedL, if_true, (num_show n h1).1, (num_show pl h3).1, labo_back h2, parts_back ps h5, Option.bind_some, Option.map_some]
  | strike l =>
    obtain ⟨h1, h2⟩ := h
    show deedL (showN n :: tStrike :: ob l :: []) = _
    simp only [deedL, if_true, (num_show n h1).1, (lab_back h2 false).1, Option.bind_some, Option.map_some]
    rfl
  | move l o pl =>
    obtain ⟨h1, h2, h3, h4⟩ := h
    show deedL (showN n :: tMove :: ob l :: [ob o, showN pl]) = _
    simp only [deedL, if_true, (num_show n h1).1, (num_show pl h4).1, (lab_back h2 false).1, labo_back h3, Option.bind_some, Option.map_some]
    rfl
  | text l ps =>
    obtain ⟨h1, h2, h3, h4⟩ := h
    show deedL (showN n :: tText :: ob l :: textWs ps) = _
    simp only [deedL, if_true, (num_show n h1).1, (lab_back h2 false).1, parts_back ps h4, Option.bind_some, Option.map_some]
    rfl
  | count o =>
    obtain ⟨h1, h2⟩ := h
    show deedL (showN n :: tCount :: ob o :: []) = _
    simp only [deedL, if_true, (num_show n h1).1, labo_back h2, Option.bind_some, Option.map_some]
    rfl
/-- words without blanks, short -/
def wOk (w : Tx) : Prop := w ≠ [] ∧ w.length ≤ 20 ∧ ∀ c ∈ w, c ≠ 32 ∧ c ≠ 10
theorem wOk_show {n : Nat} (h : n < 1000) : wOk (showN n) := by
  obtain ⟨_, h2, h3, h4⟩ := num_show n h
  refine ⟨fun z => by rw [z] at h3; simp at h3, by omega, fun c hc => ?_⟩
  have := List.all_eq_true.mp h2 c hc
  simp [isFig] at this
  omega
theorem wOk_all {w : Tx} (h1 : w ≠ []) (h2 : w.length ≤ 20) (h : w.all (fun c => decide (c ≠ 32) && decide (c ≠ 10)) = true) : wOk w := by
  refine ⟨h1, h2, fun c hc => ?_⟩
  have := List.all_eq_true.mp h c hc
  simpa using this
theorem wOk_lab {l : Tx} (h : l ∈ labs) : wOk l ∧ wOk (ob l) := by
  obtain ⟨_, _, h3, h4, h5⟩ := labs_ok l h
  have e : ob l = l := by unfold ob; rw [if_neg h3]
  rw [e]
  exact ⟨wOk_all h3 h4 h5, wOk_all h3 h4 h5⟩
theorem wOk_ob {o : Tx} (h : o ∈ labs ∨ o = []) : wOk (ob o) := by
  rcases h with h | h
  · exact (wOk_lab h).2
  · subst h; exact wOk_all (by decide) (by decide) (by decide)
theorem wOk_parts {ps : List Pt} (h : ∀ p ∈ ps, PtOk p) : ∀ w ∈ textWs ps, wOk w := by
  intro w hw
  obtain ⟨p, hp, hw⟩ := List.mem_flatMap.mp hw
  have := h p hp
  cases p with
  | word s =>
    rw [Pt.ws, List.mem_singleton] at hw
    subst hw
    obtain ⟨_, h3, h4, h5, _⟩ := wrds_ok w this
    exact wOk_all h3 h4 h5
  | cite k l =>
    simp only [Pt.ws, List.mem_cons, List.not_mem_nil, or_false] at hw
    rcases hw with rfl | rfl
    · rcases this.1 with e | e <;> subst e <;> exact wOk_all (by decide) (by decide) (by decide)
    · exact (wOk_lab this.2).1
theorem len_parts (ps : List Pt) : (textWs ps).length ≤ 2 * ps.length := by
  induction ps with
  | nil => simp [textWs]
  | cons p ps ih =>
    show ((Pt.ws p) ++ textWs ps).length ≤ _
    cases p <;> simp [Pt.ws] <;> omega
theorem row_ok (x : Nat × Dd) (h : DdOk x) : (∀ w ∈ rowWs x, wOk w) ∧ (rowWs x).length ≤ 30 ∧ rowWs x ≠ [] ∧ x.1 < 10000 ∧ x.2.small := by
  obtain ⟨n, dd⟩ := x
  have c1 : wOk tInsert ∧ wOk tStrike ∧ wOk tMove ∧ wOk tText ∧ wOk tCount := ⟨wOk_all (by decide) (by decide) (by decide), wOk_all (by decide) (by decide) (by decide), wOk_all (by decide) (by decide) (by decide), wOk_all (by decide) (by decide) (by decide), wOk_all (by decide) (by decide) (by decide)⟩
  obtain ⟨q1, q2, q3, q4, q5⟩ := c1
  cases dd with
  | insert o pl ps =>
    obtain ⟨h1, h2, h3, h4, h5⟩ := h
    have := len_parts ps
    refine ⟨fun w hw => ?_, by simp [rowWs]; omega, by simp [rowWs], by show n < 10000; omega, by show _ ∧ _; omega⟩
    simp only [rowWs, List.cons_append, List.nil_append, List.mem_cons] at hw
    rcases hw with rfl | rfl | rfl | rfl | hw
    · exact wOk_show h1
    · exact q1
    · exact wOk_ob h2
    · exact wOk_show h3
    · exact wOk_parts h5 w hw
  | strike l =>
    obtain ⟨h1, h2⟩ := h
    refine ⟨fun w hw => ?_, by simp [rowWs], by simp [rowWs], by show n < 10000; omega, trivial⟩
    simp only [rowWs, List.mem_cons, List.not_mem_nil, or_false] at hw
    rcases hw with rfl | rfl | rfl
    · exact wOk_show h1
    · exact q2
    · exact (wOk_lab h2).2
  | move l o pl =>
    obtain ⟨h1, h2, h3, h4⟩ := h
    refine ⟨fun w hw => ?_, by simp [rowWs], by simp [rowWs], by show n < 10000; omega, by show _ < _; omega⟩
    simp only [rowWs, List.mem_cons, List.not_mem_nil, or_false] at hw
    rcases hw with rfl | rfl | rfl | rfl | rfl
    · exact wOk_show h1
    · exact q3
    · exact (wOk_lab h2).2
    · exact wOk_ob h3
    · exact wOk_show h4
  | text l ps =>
    obtain ⟨h1, h2, h3, h4⟩ := h
    have := len_parts ps
    refine ⟨fun w hw => ?_, by simp [rowWs]; omega, by simp [rowWs], by show n < 10000; omega, by show _ ≤ _; omega⟩
    simp only [rowWs, List.cons_append, List.nil_append, List.mem_cons] at hw
    rcases hw with rfl | rfl | rfl | hw
    · exact wOk_show h1
    · exact q4
    · exact (wOk_lab h2).2
    · exact wOk_parts h4 w hw
  | count o =>
    obtain ⟨h1, h2⟩ := h
    refine ⟨fun w hw => ?_, by simp [rowWs], by simp [rowWs], by show n < 10000; omega, trivial⟩
    simp only [rowWs, List.mem_cons, List.not_mem_nil, or_false] at hw
    rcases hw with rfl | rfl | rfl
    · exact wOk_show h1
    · exact q5
    · exact wOk_ob h2
theorem sum_le {l : List Tx} {k : Nat} (h : ∀ w ∈ l, w.length ≤ k) : (l.map (·.length)).sum ≤ k * l.length := by
  induction l with
  | nil => simp
  | cons w l ih =>
    have := h w List.mem_cons_self
    have := ih fun v hv => h v (List.mem_cons_of_mem _ hv)
    simp only [List.map_cons, List.sum_cons, List.length_cons, Nat.mul_succ]
    omega
theorem join_len (s : Tx) : ∀ l : List Tx, (joinT s l).length ≤ (l.map (·.length)).sum + l.length * s.length
  | [] => by simp [joinT]
  | [x] => by simp [joinT]
  | x :: y :: r => by
    have := join_len s (y :: r)
    rw [joinT]
    · simp only [List.length_append, List.map_cons, List.sum_cons, List.length_cons, Nat.succ_mul] at this ⊢
      omega
    · intro z; cases z
theorem join_mem (s : Tx) : ∀ (l : List Tx) (c : Nat), c ∈ joinT s l → c ∈ s ∨ ∃ w ∈ l, c ∈ w
  | [], c, h => by cases h
  | [x], c, h => .inr ⟨x, by simp, h⟩
  | x :: y :: r, c, h => by
    rw [joinT] at h
    · rw [List.mem_append, List.mem_append] at h
      rcases h with (h | h) | h
      · exact .inr ⟨x, by simp, h⟩
      · exact .inl h
      · rcases join_mem s (y :: r) c h with h | ⟨w, hw, h⟩
        · exact .inl h
        · exact .inr ⟨w, List.mem_cons_of_mem _ hw, h⟩
    · intro z; cases z
theorem rowT_ok (x : Nat × Dd) (h : DdOk x) : splitT 32 (rowT x) = rowWs x ∧ 10 ∉ rowT x ∧ (rowT x).length ≤ 630 ∧ rowT x ≠ [] ∧ rowZ x ≤ 630 := by
  obtain ⟨h1, h2, h3, _⟩ := row_ok x h
  have hs := sum_le (k := 20) fun w hw => (h1 w hw).2.1
  refine ⟨splitT_join h3 fun p hp z => ((h1 p hp).2.2 32 z).1 rfl, fun z => ?_, ?_, fun z => ?_, by unfold rowZ; omega⟩
  · rcases join_mem _ _ _ z with z | ⟨w, hw, z⟩
    · simp at z
    · exact ((h1 w hw).2.2 10 z).2 rfl
  · have := join_len [32] (rowWs x)
    unfold rowT
    simp at this
    omega
  · unfold rowT at z
    match hr : rowWs x, h3 with
    | [w], _ =>
      rw [hr] at z h1
      exact (h1 w (by simp)).1 z
    | w :: v :: r, _ =>
      rw [hr, joinT] at z
      · simp at z
      · intro q; cases q
/-- what is written is read -/
theorem read_back (ds : List (Nat × Dd)) (h : ∀ x ∈ ds, DdOk x) (hl : ds.length ≤ 20) : readT (writeT ds) = .ok ds ∧ (writeT ds).length + 2 ≤ sizeL ∧ ∀ r ∈ splitT 10 (writeT ds), r.length + 3 ≤ 100000 := by
  have key : ∀ (n : Nat) (ds : List (Nat × Dd)), (∀ x ∈ ds, DdOk x) → n + ds.length ≤ 20 → readR n (ds.map rowT) = .ok ds := by
    intro n ds
    induction ds generalizing n with
    | nil => intro _ _; rfl
    | cons x ds ih =>
      intro h hn
      have hx := h x List.mem_cons_self
      rw [List.map_cons, readR, (rowT_ok x hx).1, deed_back x hx]
      simp only [List.length_cons] at hn
      dsimp only
      rw [if_neg (by omega), ih (n + 1) (fun y hy => h y (List.mem_cons_of_mem _ hy)) (by omega)]
      rfl
  have hs := sum_le (l := ds.map rowT) (k := 630) fun w hw => by
    obtain ⟨x, hx, rfl⟩ := List.mem_map.mp hw
    exact (rowT_ok x (h x hx)).2.2.1
  have hj := join_len [10] (ds.map rowT)
  rw [List.length_map] at hs hj
  have hz : sizeL = 16777216 := rfl
  have hlen : (writeT ds).length ≤ 630 * 20 + 20 := by
    unfold writeT
    simp only [List.length_cons, List.length_nil] at hj
    omega
  cases ds with
  | nil => exact ⟨rfl, by omega, by decide⟩
  | cons x ds =>
    have hsp : splitT 10 (writeT (x :: ds)) = (x :: ds).map rowT := splitT_join (by simp) fun p hp => by
      obtain ⟨y, hy, rfl⟩ := List.mem_map.mp hp
      exact (rowT_ok y (h y hy)).2.1
    refine ⟨?_, by omega, fun r hr => ?_⟩
    · have hne : writeT (x :: ds) ≠ [] := fun z => by
        rw [z] at hsp
        have hl := congrArg List.length hsp
        simp only [splitT, List.length_cons, List.length_nil, List.map_cons, List.length_map] at hl
        have : ds = [] := List.length_eq_zero_iff.mp (by omega)
        subst this
        simp only [splitT, List.map_cons, List.map_nil] at hsp
        injection hsp with h1 _
        exact (rowT_ok x (h x (by simp))).2.2.2.1 h1.symm
      unfold readT
      rw [if_neg hne, hsp]
      exact key 0 _ h (by simpa using hl)
    · rw [hsp] at hr
      obtain ⟨y, hy, rfl⟩ := List.mem_map.mp hr
      have := (rowT_ok y (h y hy)).2.2.1
      omega
end Mi
namespace Mi
/-! ### law k13, run -/
inductive It where
  | s (t : Tx) | i (n : Nat) | p (ps : List Pt)
def It.w : It → W
  | .s t => .str t
  | .i n => .int n
  | .p ps => partsW ps
def It.ws : It → List Tx
  | .s t => [ob t]
  | .i n => [showN n]
  | .p ps => textWs ps
def It.ok : It → Prop
  | .i n => n < 10000
  | .p ps => ps.length ≤ 1000
  | _ => True
def lw_in : List S := [.asg (.v 1) (.bin .add (.v 1) (.ite (.isi (.v 3) [.tuple]) (.fn .list [.v 3]) (.lst [.v 3])))]
theorem lw_inner (d : Nat) (G : Gp) (a : Option R) (b : Option R) {chk : Gp → Bool} (hc : chk G = true) : ∀ (ps : List Pt) (acc : List Tx) (q : Option R), acc.length + 2 * ps.length ≤ sizeL →
    ∃ q', forL (turnL [3] (execs (lvl P d) lw_in)) chk (ps.map Pt.w) [a, some (.obj .own (.lst (acc.map .str))), b, q] G = .nx [a, some (.obj .own (.lst ((acc ++ textWs ps).map .str))), b, q'] G := by
  intro ps
  induction ps with
  | nil => intro acc q h; exact ⟨q, by simp [forL_nil hc, textWs]⟩
  | cons p ps ih =>
    intro acc q h
    simp only [List.length_cons] at h
    cases p with
    | word s =>
      obtain ⟨q', e⟩ := ih (acc ++ [s]) (some (.val (.str s))) (by simp; omega)
      refine ⟨q', ?_⟩
      have hl : acc.length + 1 ≤ sizeL := by omega
      have e1 : turnL [3] (execs (lvl P d) lw_in) (Pt.w (.word s)) [a, some (.obj .own (.lst (acc.map .str))), b, q] G = .nx [a, some (.obj .own (.lst ((acc ++ [s]).map .str))), b, some (.val (.str s))] G := by
        simp [lw_in, Pt.w, getS, isisR, isiR, content, hl]
      rw [List.map_cons, forL_cons hc, e1, loop_nx, e]
      simp [textWs, Pt.ws]
    | cite k l =>
      obtain ⟨q', e⟩ := ih (acc ++ [k, l]) (some (.val (.tup [.str k, .str l]))) (by simp; omega)
      refine ⟨q', ?_⟩
      have hl : acc.length + 2 ≤ sizeL := by omega
      have e1 : turnL [3] (execs (lvl P d) lw_in) (Pt.w (.cite k l)) [a, some (.obj .own (.lst (acc.map .str))), b, q] G = .nx [a, some (.obj .own (.lst ((acc ++ [k, l]).map .str))), b, some (.val (.tup [.str k, .str l]))] G := by
        simp [lw_in, Pt.w, getS, isisR, isiR, content, hl]
      rw [List.map_cons, forL_cons hc, e1, loop_nx, e]
      simp [textWs, Pt.ws]
def lw_b : List S := [.if_ (.isi (.v 2) [.tuple]) [.for_ [3] .of [.v 2] lw_in] [.mut 1 .append [.ite (.cmp .eq (.v 2) (.c (.str []))) (.c (.str [98, 111, 111, 107])) (.fn .str [.v 2])]]]
theorem lw_loop (d : Nat) (G : Gp) (a : Option R) {chk : Gp → Bool} (hc : chk G = true) : ∀ (its : List It) (acc : List Tx) (q q3 : Option R), (∀ x ∈ its, x.ok) → acc.length + 2000 * its.length ≤ sizeL →
    ((forL (turnL [2] (execs (lvl P d) lw_b)) chk (its.map It.w) [a, some (.obj .own (.lst (acc.map .str))), q, q3] G).then (execs (lvl P d) [.ret (.v 1)])).fo = .ok (.obj .own (.lst ((acc ++ its.flatMap It.ws).map .str))) G := by
  intro its
  induction its with
  | nil => intro acc q q3 h1 h2; simp [forL_nil hc, getS]
  | cons x its ih =>
    intro acc q q3 h1 h2
    simp only [List.length_cons] at h2
    have hx := h1 x List.mem_cons_self
    have step : ∃ q3', turnL [2] (execs (lvl P d) lw_b) x.w [a, some (.obj .own (.lst (acc.map .str))), q, q3] G = .nx [a, some (.obj .own (.lst ((acc ++ x.ws).map .str))), some (.val x.w), q3'] G ∧ x.ws.length ≤ 2000 := by
      cases x with
      | s t =>
        refine ⟨q3, ?_, by simp [It.ws]⟩
        have ma := fun e (he : evM (lvl P d) e [a, some (.obj .own (.lst (acc.map .str))), some (.val (.str t)), q3] G = .ok (.str (ob t), [a, some (.obj .own (.lst (acc.map .str))), some (.val (.str t)), q3]) G) => mut_app (w := lvl P d) (i := 1) (G := G) (G1 := G) (e := e) (xs := acc.map .str) (σ := [a, some (.obj .own (.lst (acc.map .str))), some (.val (.str t)), q3]) rfl he rfl (by simp; omega)
        have he : evM (lvl P d) (.ite (.cmp .eq (.v 2) (.c (.str []))) (.c (.str [98, 111, 111, 107])) (.fn .str [.v 2])) [a, some (.obj .own (.lst (acc.map .str))), some (.val (.str t)), q3] G = .ok (.str (ob t), [a, some (.obj .own (.lst (acc.map .str))), some (.val (.str t)), q3]) G := by
          by_cases z : t = []
          · subst z; simp [getS, ob, tBook]
          · simp [getS, ob, z]
        simp [lw_b, It.w, getS, isisR, isiR, content, ma _ he, It.ws]
      | i n =>
        refine ⟨q3, ?_, by simp [It.ws]⟩
        have h3 : ((n : Int)) < 10000000000 := by simp only [It.ok] at hx; omega
        have ma := fun e (he : evM (lvl P d) e [a, some (.obj .own (.lst (acc.map .str))), some (.val (.int n)), q3] G = .ok (.str (showN n), [a, some (.obj .own (.lst (acc.map .str))), some (.val (.int n)), q3]) G) => mut_app (w := lvl P d) (i := 1) (G := G) (G1 := G) (e := e) (xs := acc.map .str) (σ := [a, some (.obj .own (.lst (acc.map .str))), some (.val (.int n)), q3]) rfl he rfl (by simp; omega)
        have he : evM (lvl P d) (.ite (.cmp .eq (.v 2) (.c (.str []))) (.c (.str [98, 111, 111, 107])) (.fn .str [.v 2])) [a, some (.obj .own (.lst (acc.map .str))), some (.val (.int n)), q3] G = .ok (.str (showN n), [a, some (.obj .own (.lst (acc.map .str))), some (.val (.int n)), q3]) G := by
          simp [getS, h3, eqR, content, cmpOk, flatW, flatN]
        simp [lw_b, It.w, getS, isisR, isiR, content, ma _ he, It.ws]
      | p ps =>
        have hp : ps.length ≤ 1000 := hx
        obtain ⟨q', e⟩ := lw_inner d G a (some (.val (partsW ps))) (chk := chkW ([R.val (.tup (ps.map Pt.w))].map (kindR G)) .of [.val (.tup (ps.map Pt.w))] (ps.map Pt.w)) chk_tup ps acc q3 (by omega)
        refine ⟨q', ?_, by have := len_parts ps; show (textWs ps).length ≤ _; omega⟩
        have hls : lockS [.v 2] G .of [.val (.tup (ps.map Pt.w))] = true := rfl
        simp only [partsW] at e
        simp [lw_b, It.w, partsW, getS, isisR, isiR, content, hls, forR_eq (walk_tup G (ps.map Pt.w)) rfl]
        simp only [List.map_cons, List.map_nil, kind_tup] at e
        rw [e]
        simp [It.ws]
    obtain ⟨q3', e, hl⟩ := step
    have := ih (acc ++ x.ws) (some (.val x.w)) q3' (fun y hy => h1 y (List.mem_cons_of_mem _ hy)) (by rw [List.length_append]; omega)
    rw [List.map_cons, forL_cons hc, e, loop_nx, this]
    simp
theorem P_words : P.fn n__law_words = some ⟨1, 4, d__law_words⟩ := rfl
theorem run_words (d : Nat) (G : Gp) (w : Tx) (its : List It) (h : ∀ x ∈ its, x.ok) (hl : its.length ≤ 10) : run P (d + 1) n__law_words [.val (.tup (.str w :: its.map It.w))] G = .ok (.obj .own (.lst ((w :: its.flatMap It.ws).map .str))) G := by
  rw [run_body P_words rfl]
  have hz : sizeL = 16777216 := rfl
  have := lw_loop d G (some (.val (.tup (.str w :: its.map It.w)))) (chk := chkW ([R.val (.tup (its.map It.w))].map (kindR G)) .of [.val (.tup (its.map It.w))] (its.map It.w)) chk_tup its [w] none none h (by simp; omega)
  have hls : lockS [.slc (.v 0) (some (.c (.int 1))) none] G .of [.val (.tup (its.map It.w))] = true := rfl
  simp [d__law_words, startS, getS, hls, forR_eq (walk_tup G (its.map It.w)) rfl]
  simpa [lw_b, lw_in] using this
def Dd.its : Dd → List It
  | .insert o pl ps => [.s o, .i pl, .p ps]
  | .strike l => [.s l]
  | .move l o pl => [.s l, .s o, .i pl]
  | .text l ps => [.s l, .p ps]
  | .count o => [.s o]
def Dd.nm : Dd → Tx
  | .insert _ _ _ => tInsert | .strike _ => tStrike | .move _ _ _ => tMove | .text _ _ => tText | .count _ => tCount
theorem run_words_dd (d : Nat) (G : Gp) (n : Nat) (x : Dd) (h : x.small) : run P (d + 1) n__law_words [.val x.w] G = .ok (.obj .own (.lst (((rowWs (n, x)).drop 1).map .str))) G := by
  have e : x.w = .tup (.str x.nm :: x.its.map It.w) := by cases x <;> rfl
  have e2 : (rowWs (n, x)).drop 1 = x.nm :: x.its.flatMap It.ws := by cases x <;> simp [rowWs, Dd.nm, Dd.its, It.ws]
  rw [e, e2]
  refine run_words d G x.nm x.its (fun y hy => ?_) (by cases x <;> simp [Dd.its])
  cases x with
  | insert o pl ps =>
    simp only [Dd.its, List.mem_cons, List.not_mem_nil, or_false] at hy
    rcases hy with rfl | rfl | rfl
    · trivial
    · exact h.1
    · exact h.2
  | strike l =>
    simp only [Dd.its, List.mem_cons, List.not_mem_nil, or_false] at hy
    subst hy; trivial
  | move l o pl =>
    simp only [Dd.its, List.mem_cons, List.not_mem_nil, or_false] at hy
    rcases hy with rfl | rfl | rfl
    · trivial
    · trivial
    · exact h
  | text l ps =>
    simp only [Dd.its, List.mem_cons, List.not_mem_nil, or_false] at hy
    rcases hy with rfl | rfl
    · trivial
    · exact h
  | count o =>
    simp only [Dd.its, List.mem_cons, List.not_mem_nil, or_false] at hy
    subst hy; trivial
end Mi
namespace Mi
theorem P_any : P.fn n__law_any = some ⟨1, 10, d__law_any⟩ := rfl
def labW : List W := labs.map .str
theorem pick_lab {G : Gp} {k : Kd} {r : Int} (h0 : 0 ≤ r) (h1 : r < 6) : ∃ l ∈ labs, idxR G (.obj k (.lst labW)) (.val (.int r)) = some (.str l) := by
  obtain ⟨x, hx, e⟩ := pick_lst (G := G) (k := k) (xs := labW) h0 (by simpa [labW, labs] using h1)
  obtain ⟨l, hl, rfl⟩ := List.mem_map.mp hx
  exact ⟨l, hl, e⟩
theorem pick_labo {G : Gp} {k : Kd} {r : Int} (h0 : 0 ≤ r) (h1 : r < 7) : ∃ o, (o ∈ labs ∨ o = []) ∧ idxR G (.obj k (.lst (labW ++ [.str []]))) (.val (.int r)) = some (.str o) := by
  obtain ⟨x, hx, e⟩ := pick_lst (G := G) (k := k) (xs := labW ++ [.str []]) h0 (by simpa [labW, labs] using h1)
  rcases List.mem_append.mp hx with hx | hx
  · obtain ⟨l, hl, rfl⟩ := List.mem_map.mp hx
    exact ⟨l, .inl hl, e⟩
  · rw [List.mem_singleton] at hx
    subst hx
    exact ⟨[], .inr rfl, e⟩
def any1 : S := .asgs [.v 2, .v 3] [.idx (.v 1) (.call n__law_drawn [.v 0, .c (.int 6)]), .idx (.bin .add (.v 1) (.lst [.c (.str [])])) (.call n__law_drawn [.v 0, .c (.int 7)])]
def any2 : S := .asgs [.v 4, .v 5] [.lst [.call n__law_drawn [.v 0, .c (.int 10)], .call n__law_drawn [.v 0, .c (.int 1000)]], .lst [.call n__law_drawn [.v 0, .c (.int 10)], .call n__law_drawn [.v 0, .c (.int 1000)]]]
def any3 : S := .asgs [.v 4, .v 5] [.idx (.v 4) (.call n__law_drawn [.v 0, .c (.int 2)]), .idx (.v 5) (.call n__law_drawn [.v 0, .c (.int 2)])]
theorem any1_ok (d : Nat) (G : Gp) (p : Nat) (h : St G p) (o : List (Option R)) (a b : Option R) : ∃ l ob, ∃ G', exec (lvl P (d + 1)) any1 (some (.val (.ref p)) :: some (.obj .own (.lst labW)) :: a :: b :: o) G = .nx (some (.val (.ref p)) :: some (.obj .own (.lst labW)) :: some (.val (.str l)) :: some (.val (.str ob)) :: o) G' ∧ l ∈ labs ∧ (ob ∈ labs ∨ ob = []) ∧ Dr p G G' ∧ St G' p := by
  obtain ⟨r1, G1, e1, a1, b1, d1, s1⟩ := ev_draw d G p 0 6 (some (.val (.ref p)) :: some (.obj .own (.lst labW)) :: a :: b :: o) rfl h (by decide) (by decide)
  obtain ⟨r2, G2, e2, a2, b2, d2, s2⟩ := ev_draw d G1 p 0 7 (some (.val (.ref p)) :: some (.obj .own (.lst labW)) :: a :: b :: o) rfl s1 (by decide) (by decide)
  obtain ⟨l, hl, i1⟩ := pick_lab (G := G1) (k := .brw 1) a1 b1
  obtain ⟨ob, ho, i2⟩ := pick_labo (G := G2) (k := .own) a2 b2
  refine ⟨l, ob, G2, ?_, hl, ho, d1.trans d2, s2⟩
  have hlen : labW.length + 1 ≤ sizeL := by decide
  simp [any1, -ev_call, getS, e1, e2, -idx_lst, i1, i2, hlen]
theorem any2_ok (d : Nat) (G : Gp) (p : Nat) (h : St G p) (o : List (Option R)) (x1 x2 x3 a b : Option R) : ∃ r1 r2 r3 r4 : Int, ∃ G', exec (lvl P (d + 1)) any2 (some (.val (.ref p)) :: x1 :: x2 :: x3 :: a :: b :: o) G = .nx (some (.val (.ref p)) :: x1 :: x2 :: x3 :: some (.obj .own (.lst [.int r1, .int r2])) :: some (.obj .own (.lst [.int r3, .int r4])) :: o) G' ∧ (0 ≤ r1 ∧ r1 < 1000) ∧ (0 ≤ r2 ∧ r2 < 1000) ∧ (0 ≤ r3 ∧ r3 < 1000) ∧ (0 ≤ r4 ∧ r4 < 1000) ∧ Dr p G G' ∧ St G' p := by
  obtain ⟨r1, G1, e1, a1, b1, d1, s1⟩ := ev_draw d G p 0 10 (some (.val (.ref p)) :: x1 :: x2 :: x3 :: a :: b :: o) rfl h (by decide) (by decide)
  obtain ⟨r2, G2, e2, a2, b2, d2, s2⟩ := ev_draw d G1 p 0 1000 (some (.val (.ref p)) :: x1 :: x2 :: x3 :: a :: b :: o) rfl s1 (by decide) (by decide)
  obtain ⟨r3, G3, e3, a3, b3, d3, s3⟩ := ev_draw d G2 p 0 10 (some (.val (.ref p)) :: x1 :: x2 :: x3 :: a :: b :: o) rfl s2 (by decide) (by decide)
  obtain ⟨r4, G4, e4, a4, b4, d4, s4⟩ := ev_draw d G3 p 0 1000 (some (.val (.ref p)) :: x1 :: x2 :: x3 :: a :: b :: o) rfl s3 (by decide) (by decide)
  refine ⟨r1, r2, r3, r4, G4, ?_, by omega, by omega, by omega, by omega, ((d1.trans d2).trans d3).trans d4, s4⟩
  simp [any2, -ev_call, e1, e2, e3, e4]
theorem any3_ok (d : Nat) (G : Gp) (p : Nat) (h : St G p) (o : List (Option R)) (x1 x2 x3 : Option R) (r1 r2 r3 r4 : Int) (h1 : 0 ≤ r1 ∧ r1 < 1000) (h2 : 0 ≤ r2 ∧ r2 < 1000) (h3 : 0 ≤ r3 ∧ r3 < 1000) (h4 : 0 ≤ r4 ∧ r4 < 1000) :
    ∃ n pl : Nat, ∃ G', exec (lvl P (d + 1)) any3 (some (.val (.ref p)) :: x1 :: x2 :: x3 :: some (.obj .own (.lst [.int r1, .int r2])) :: some (.obj .own (.lst [.int r3, .int r4])) :: o) G = .nx (some (.val (.ref p)) :: x1 :: x2 :: x3 :: some (.val (.int n)) :: some (.val (.int pl)) :: o) G' ∧ n < 1000 ∧ pl < 1000 ∧ Dr p G G' ∧ St G' p := by
  obtain ⟨q1, G1, e1, a1, b1, d1, s1⟩ := ev_draw d G p 0 2 (some (.val (.ref p)) :: x1 :: x2 :: x3 :: some (.obj .own (.lst [.int r1, .int r2])) :: some (.obj .own (.lst [.int r3, .int r4])) :: o) rfl h (by decide) (by decide)
  obtain ⟨q2, G2, e2, a2, b2, d2, s2⟩ := ev_draw d G1 p 0 2 (some (.val (.ref p)) :: x1 :: x2 :: x3 :: some (.obj .own (.lst [.int r1, .int r2])) :: some (.obj .own (.lst [.int r3, .int r4])) :: o) rfl s1 (by decide) (by decide)
  have pk : ∀ (G : Gp) (k : Kd) (q s t : Int), 0 ≤ q → q < 2 → (0 ≤ s ∧ s < 1000) → (0 ≤ t ∧ t < 1000) → ∃ n : Nat, n < 1000 ∧ idxR G (.obj k (.lst [.int s, .int t])) (.val (.int q)) = some (.int n) := fun G k q s t z0 z1 z2 z3 => by
    obtain ⟨x, hx, e⟩ := pick_lst (G := G) (k := k) (xs := [.int s, .int t]) z0 (by simpa using z1)
    simp only [List.mem_cons, List.not_mem_nil, or_false] at hx
    rcases hx with rfl | rfl
    · exact ⟨s.toNat, by omega, by rw [e, Int.toNat_of_nonneg z2.1]⟩
    · exact ⟨t.toNat, by omega, by rw [e, Int.toNat_of_nonneg z3.1]⟩
  obtain ⟨n, hn, i1⟩ := pk G1 (.brw 4) q1 r1 r2 a1 b1 h1 h2
  obtain ⟨pl, hp, i2⟩ := pk G2 (.brw 5) q2 r3 r4 a2 b2 h3 h4
  refine ⟨n, pl, G2, ?_, hn, hp, d1.trans d2, s2⟩
  simp [any3, -ev_call, getS, e1, e2, -idx_lst, i1, i2]
def any_b : List S := [.asg (.v 8) (.tup [.idx (.lst [.c (.str [97, 115]), .c (.str [115, 101, 101])]) (.call n__law_drawn [.v 0, .c (.int 2)]), .idx (.v 1) (.call n__law_drawn [.v 0, .c (.int 6)])]), .mut 6 .append [.idx (.lst [.v 8, .c (.str [97, 115, 105, 115]), .c (.str [98, 111, 111, 107]), .c (.str [105, 110, 115, 101, 114, 116]), .c (.str [122]), .c (.str [97, 98, 99, 100, 101, 102, 103, 104, 105, 106, 107, 108, 109, 110, 111, 112, 113, 114, 115, 116])]) (.call n__law_drawn [.v 0, .c (.int 6)])]]
theorem any_turn (d : Nat) (G : Gp) (p : Nat) (h : St G p) (x2 x3 x4 x5 x7 x8 x9 : Option R) (ps : List Pt) (hl : ps.length < 1000) (hp : ∀ q ∈ ps, PtOk q) :
    ∃ q x8', ∃ G', execs (lvl P (d + 1)) any_b [some (.val (.ref p)), some (.obj .own (.lst labW)), x2, x3, x4, x5, some (.obj .own (.lst (ps.map Pt.w))), x7, x8, x9] G = .nx [some (.val (.ref p)), some (.obj .own (.lst labW)), x2, x3, x4, x5, some (.obj .own (.lst ((ps ++ [q]).map Pt.w))), x7, x8', x9] G' ∧ PtOk q ∧ Dr p G G' ∧ St G' p := by
  obtain ⟨r1, G1, e1, a1, b1, d1, s1⟩ := ev_draw d G p 0 2 [some (.val (.ref p)), some (.obj .own (.lst labW)), x2, x3, x4, x5, some (.obj .own (.lst (ps.map Pt.w))), x7, x8, x9] rfl h (by decide) (by decide)
  obtain ⟨r2, G2, e2, a2, b2, d2, s2⟩ := ev_draw d G1 p 0 6 [some (.val (.ref p)), some (.obj .own (.lst labW)), x2, x3, x4, x5, some (.obj .own (.lst (ps.map Pt.w))), x7, x8, x9] rfl s1 (by decide) (by decide)
  obtain ⟨c, hc, i1⟩ := pick_lst (G := G1) (k := .own) (xs := [.str [97, 115], .str [115, 101, 101]]) a1 (by simpa using b1)
  obtain ⟨l, hl2, i2⟩ := pick_lab (G := G2) (k := .brw 1) a2 b2
  obtain ⟨k, rfl, hk⟩ : ∃ k, c = .str k ∧ (k = tAs ∨ k = tSee) := by
    simp only [List.mem_cons, List.not_mem_nil, or_false] at hc
    rcases hc with rfl | rfl
    · exact ⟨_, rfl, .inl rfl⟩
    · exact ⟨_, rfl, .inr rfl⟩
  obtain ⟨r3, G3, e3, a3, b3, d3, s3⟩ := ev_draw d G2 p 0 6 [some (.val (.ref p)), some (.obj .own (.lst labW)), x2, x3, x4, x5, some (.obj .own (.lst (ps.map Pt.w))), x7, some (.val (.tup [.str k, .str l])), x9] rfl s2 (by decide) (by decide)
  obtain ⟨z, hz, i3⟩ := pick_lst (G := G3) (k := .own) (xs := [.tup [.str k, .str l], .str [97, 115, 105, 115], .str [98, 111, 111, 107], .str [105, 110, 115, 101, 114, 116], .str [122], .str [97, 98, 99, 100, 101, 102, 103, 104, 105, 106, 107, 108, 109, 110, 111, 112, 113, 114, 115, 116]]) a3 (by simpa using b3)
  obtain ⟨q, rfl, hq⟩ : ∃ q, z = Pt.w q ∧ PtOk q := by
    simp only [List.mem_cons, List.not_mem_nil, or_false] at hz
    rcases hz with rfl | rfl | rfl | rfl | rfl | rfl
    · exact ⟨.cite k l, rfl, hk, hl2⟩
    · exact ⟨.word _, rfl, by show _ ∈ wrds; decide⟩
    · exact ⟨.word _, rfl, by show _ ∈ wrds; decide⟩
    · exact ⟨.word _, rfl, by show _ ∈ wrds; decide⟩
    · exact ⟨.word _, rfl, by show _ ∈ wrds; decide⟩
    · exact ⟨.word _, rfl, by show _ ∈ wrds; decide⟩
  refine ⟨q, some (.val (.tup [.str k, .str l])), G3, ?_, hq, (d1.trans d2).trans d3, s3⟩
  have hz2 : sizeL = 16777216 := rfl
  have st8 : exec (lvl P (d + 1)) (.asg (.v 8) (.tup [.idx (.lst [.c (.str [97, 115]), .c (.str [115, 101, 101])]) (.call n__law_drawn [.v 0, .c (.int 2)]), .idx (.v 1) (.call n__law_drawn [.v 0, .c (.int 6)])])) [some (.val (.ref p)), some (.obj .own (.lst labW)), x2, x3, x4, x5, some (.obj .own (.lst (ps.map Pt.w))), x7, x8, x9] G = .nx [some (.val (.ref p)), some (.obj .own (.lst labW)), x2, x3, x4, x5, some (.obj .own (.lst (ps.map Pt.w))), x7, some (.val (.tup [.str k, .str l])), x9] G2 := by
    simp [-ev_call, getS, e1, e2, -idx_lst, i1, i2]
  have ma := mut_app (w := lvl P (d + 1)) (i := 6) (G := G2) (G1 := G3) (x := Pt.w q) (xs := ps.map Pt.w) (σ := [some (.val (.ref p)), some (.obj .own (.lst labW)), x2, x3, x4, x5, some (.obj .own (.lst (ps.map Pt.w))), x7, some (.val (.tup [.str k, .str l])), x9]) (σ1 := [some (.val (.ref p)), some (.obj .own (.lst labW)), x2, x3, x4, x5, some (.obj .own (.lst (ps.map Pt.w))), x7, some (.val (.tup [.str k, .str l])), x9]) (e := .idx (.lst [.v 8, .c (.str [97, 115, 105, 115]), .c (.str [98, 111, 111, 107]), .c (.str [105, 110, 115, 101, 114, 116]), .c (.str [122]), .c (.str [97, 98, 99, 100, 101, 102, 103, 104, 105, 106, 107, 108, 109, 110, 111, 112, 113, 114, 115, 116])]) (.call n__law_drawn [.v 0, .c (.int 6)])) rfl
    (by simp [-ev_call, getS, e3, -idx_lst, i3]) rfl (by rw [List.length_map]; omega)
  rw [any_b, execs_cons, st8, then_nx, execs_cons, exec_mut, ma, then_nx, execs_nil]
  simp
end Mi
namespace Mi
theorem any_loop (d : Nat) (p : Nat) {chk : Gp → Bool} (hc : ∀ G, chk G = true) (x2 x3 x4 x5 x9 : Option R) : ∀ (its : List W) (G : Gp) (ps : List Pt) (x7 x8 : Option R), St G p → ps.length + its.length < 1000 → (∀ q ∈ ps, PtOk q) →
    ∃ (ps' : List Pt) (x7' x8' : Option R) (G' : Gp), forL (turnL [7] (execs (lvl P (d + 1)) any_b)) chk its [some (.val (.ref p)), some (.obj .own (.lst labW)), x2, x3, x4, x5, some (.obj .own (.lst (ps.map Pt.w))), x7, x8, x9] G = .nx [some (.val (.ref p)), some (.obj .own (.lst labW)), x2, x3, x4, x5, some (.obj .own (.lst (ps'.map Pt.w))), x7', x8', x9] G' ∧ ps'.length = ps.length + its.length ∧ (∀ q ∈ ps', PtOk q) ∧ Dr p G G' ∧ St G' p := by
  intro its
  induction its with
  | nil =>
    intro G ps x7 x8 h hl hp
    refine ⟨ps, x7, x8, G, forL_nil (hc G), by simp, hp, Dr.refl ?_, h⟩
    obtain ⟨_, _, _, _, _, q, _⟩ := h.ex
    exact (List.getElem?_eq_some_iff.mp q).1
  | cons x its ih =>
    intro G ps x7 x8 h hl hp
    simp only [List.length_cons] at hl
    obtain ⟨q, x8', G1, e, hq, d1, s1⟩ := any_turn d G p h x2 x3 x4 x5 (some (.val x)) x8 x9 ps (by omega) hp
    obtain ⟨ps', x7', x8'', G2, e2, l2, p2, d2, s2⟩ := ih G1 (ps ++ [q]) (some (.val x)) x8' s1 (by simp; omega) (fun z hz => by
      rcases List.mem_append.mp hz with hz | hz
      · exact hp z hz
      · rw [List.mem_singleton] at hz; subst hz; exact hq)
    refine ⟨ps', x7', x8'', G2, ?_, by rw [l2]; simp; omega, p2, d1.trans d2, s2⟩
    rw [forL_cons (hc G), turn_one]
    simp only [List.set_cons_succ, List.set_cons_zero]
    rw [e, loop_nx, e2]
def any4 : S := .for_ [7] .rng [.call n__law_drawn [.v 0, .c (.int 11)]] any_b
theorem any4_ok (d : Nat) (G : Gp) (p : Nat) (h : St G p) (x2 x3 x4 x5 x7 x8 x9 : Option R) : ∃ (ps : List Pt) (x7' x8' : Option R) (G' : Gp), exec (lvl P (d + 1)) any4 [some (.val (.ref p)), some (.obj .own (.lst labW)), x2, x3, x4, x5, some (.obj .own (.lst [])), x7, x8, x9] G = .nx [some (.val (.ref p)), some (.obj .own (.lst labW)), x2, x3, x4, x5, some (.obj .own (.lst (ps.map Pt.w))), x7', x8', x9] G' ∧ ps.length ≤ 10 ∧ (∀ q ∈ ps, PtOk q) ∧ Dr p G G' ∧ St G' p := by
  obtain ⟨r, G1, e1, a1, b1, d1, s1⟩ := ev_draw d G p 0 11 [some (.val (.ref p)), some (.obj .own (.lst labW)), x2, x3, x4, x5, some (.obj .own (.lst [])), x7, x8, x9] rfl h (by decide) (by decide)
  have hs : small r = true := (small_iff r).mpr (by omega)
  have hw := walk_rngN (G := G1) hs
  have hc : ∀ G, chkW ([R.val (.int r)].map (kindR G1)) .rng [.val (.int r)] (rngW 0 r.toNat) G = true := fun G => by
    have := walk_rngN (G := G) hs
    simp [chkW, this, kindR, content]
  obtain ⟨ps, x7', x8', G2, e2, l2, p2, d2, s2⟩ := any_loop d p hc x2 x3 x4 x5 x9 (rngW 0 r.toNat) G1 [] x7 x8 s1 (by rw [rng_len]; simp; omega) (fun q hq => by cases hq)
  refine ⟨ps, x7', x8', G2, ?_, by rw [l2, rng_len]; simp; omega, p2, d1.trans d2, s2⟩
  have hls : lockS [.call n__law_drawn [.v 0, .c (.int 11)]] G1 .rng [.val (.int r)] = true := rfl
  simp only [List.map_nil] at e2
  rw [any4, exec_for, evs_cons, e1]
  simp only [bind_ok, evs_nil, so_ok, hls, if_true]
  rw [forR_eq hw rfl]
  simp only [frzS_val, frzS_nil]
  exact e2
theorem run_any (d : Nat) (G : Gp) (p : Nat) (h : St G p) : ∃ x G', run P (d + 2) n__law_any [.val (.ref p)] G = .ok (.val (deedW x)) G' ∧ DdOk x ∧ Dr p G G' ∧ St G' p := by
  rw [run_body P_any rfl]
  obtain ⟨l, ob, G1, e1, hl, ho, d1, s1⟩ := any1_ok d G p h [none, none, none, none, none, none] none none
  obtain ⟨r1, r2, r3, r4, G2, e2, h1, h2, h3, h4, d2, s2⟩ := any2_ok d G1 p s1 [none, none, none, none] (some (.obj .own (.lst labW))) (some (.val (.str l))) (some (.val (.str ob))) none none
  obtain ⟨n, pl, G3, e3, hn, hp, d3, s3⟩ := any3_ok d G2 p s2 [none, none, none, none] (some (.obj .own (.lst labW))) (some (.val (.str l))) (some (.val (.str ob))) r1 r2 r3 r4 h1 h2 h3 h4
  obtain ⟨ps, x7, x8, G4, e4, lp, pp, d4, s4⟩ := any4_ok d G3 p s3 (some (.val (.str l))) (some (.val (.str ob))) (some (.val (.int n))) (some (.val (.int pl))) none none none
  have e9 : exec (lvl P (d + 1)) (.asg (.v 9) (.lst [.tup [.c (.str [105, 110, 115, 101, 114, 116]), .v 3, .v 5, .fn .tuple [.v 6]], .tup [.c (.str [115, 116, 114, 105, 107, 101]), .v 2], .tup [.c (.str [109, 111, 118, 101]), .v 2, .v 3, .v 5], .tup [.c (.str [99, 111, 117, 110, 116]), .v 3]])) [some (.val (.ref p)), some (.obj .own (.lst labW)), some (.val (.str l)), some (.val (.str ob)), some (.val (.int n)), some (.val (.int pl)), some (.obj .own (.lst (ps.map Pt.w))), x7, x8, none] G4 = .nx [some (.val (.ref p)), some (.obj .own (.lst labW)), some (.val (.str l)), some (.val (.str ob)), some (.val (.int n)), some (.val (.int pl)), some (.obj .own (.lst (ps.map Pt.w))), x7, x8, some (.obj .own (.lst [Dd.w (.insert ob pl ps), Dd.w (.strike l), Dd.w (.move l ob pl), Dd.w (.count ob)]))] G4 := by
    simp [getS, Dd.w, tInsert, tStrike, tMove, tCount, partsW]
  obtain ⟨r5, G5, e5, a5, b5, d5, s5⟩ := ev_draw d G4 p 0 5 [some (.val (.ref p)), some (.obj .own (.lst labW)), some (.val (.str l)), some (.val (.str ob)), some (.val (.int n)), some (.val (.int pl)), some (.obj .own (.lst (ps.map Pt.w))), x7, x8, some (.obj .own (.lst [Dd.w (.insert ob pl ps), Dd.w (.strike l), Dd.w (.move l ob pl), Dd.w (.count ob)]))] rfl s4 (by decide) (by decide)
  obtain ⟨z, hz, i5⟩ := pick_lst (G := G5) (k := .own) (xs := [Dd.w (.insert ob pl ps), Dd.w (.strike l), Dd.w (.move l ob pl), Dd.w (.count ob), Dd.w (.text l ps)]) a5 (by simpa using b5)
  obtain ⟨x, rfl, hx⟩ : ∃ x, z = Dd.w x ∧ DdOk (n, x) := by
    simp only [List.mem_cons, List.not_mem_nil, or_false] at hz
    rcases hz with rfl | rfl | rfl | rfl | rfl
    · exact ⟨_, rfl, hn, ho, hp, lp, pp⟩
    · exact ⟨_, rfl, hn, hl⟩
    · exact ⟨_, rfl, hn, hl, ho, hp⟩
    · exact ⟨_, rfl, hn, ho⟩
    · exact ⟨_, rfl, hn, hl, lp, pp⟩
  refine ⟨(n, x), G5, ?_, hx, (((d1.trans d2).trans d3).trans d4).trans d5, s5⟩
  have eT : ev (lvl P (d + 1)) (.idx (.bin .add (.v 9) (.lst [.tup [.c (.str [116, 101, 120, 116]), .v 2, .fn .tuple [.v 6]]])) (.call n__law_drawn [.v 0, .c (.int 5)])) [some (.val (.ref p)), some (.obj .own (.lst labW)), some (.val (.str l)), some (.val (.str ob)), some (.val (.int n)), some (.val (.int pl)), some (.obj .own (.lst (ps.map Pt.w))), x7, x8, some (.obj .own (.lst [Dd.w (.insert ob pl ps), Dd.w (.strike l), Dd.w (.move l ob pl), Dd.w (.count ob)]))] G4 = .ok (.val (Dd.w x)) G5 := by
    have i5' := i5
    simp only [show Dd.w (.text l ps) = .tup [.str tText, .str l, partsW ps] from rfl, tText, partsW] at i5'
    simp [-ev_call, getS, e5, -idx_lst, i5']
  show ((execs (lvl P (d + 1)) (.asg (.v 1) _ :: any1 :: any2 :: any3 :: .asg (.v 6) (.lst []) :: any4 :: .asg (.v 9) _ :: [.retT [.v 4, .idx _ _]]) [some (.val (.ref p)), none, none, none, none, none, none, none, none, none] G)).fo = _
  have e0 : exec (lvl P (d + 1)) (.asg (.v 1) (.lst [.c (.str [49]), .c (.str [50, 46, 51]), .c (.str [48, 97]), .c (.str [49, 50, 98, 46, 49]), .c (.str [57, 57, 122, 46, 57, 57, 122, 46, 57, 57, 122, 46, 57, 57, 122]), .c (.str [51, 46, 48, 99, 46, 55])])) [some (.val (.ref p)), none, none, none, none, none, none, none, none, none] G = .nx [some (.val (.ref p)), some (.obj .own (.lst labW)), none, none, none, none, none, none, none, none] G := by
    simp [labW, labs]
  have e6 : ∀ (x1 x2 x3 x4 x5 x6 x7 x8 x9 : Option R) (G : Gp), exec (lvl P (d + 1)) (.asg (.v 6) (.lst [])) [x1, x2, x3, x4, x5, x6, none, x7, x8, x9] G = .nx [x1, x2, x3, x4, x5, x6, some (.obj .own (.lst [])), x7, x8, x9] G := fun _ _ _ _ _ _ _ _ _ _ => by simp
  rw [execs_cons, e0, then_nx, execs_cons, e1, then_nx, execs_cons, e2, then_nx, execs_cons, e3, then_nx, execs_cons, e6, then_nx, execs_cons, e4, then_nx, execs_cons, e9, then_nx, execs_cons, exec_retT, evMs_cons, evM_def, ev_v]
  simp only [getS, List.getElem?_cons_succ, List.getElem?_cons_zero, opt_some, bind_ok, takM_val, evMs_cons, evM_def, eT, evMs_nil, calm_okE, so_ok, then_ret, fo_ret]
  rfl
end Mi
namespace Mi
theorem nice_part (p : Pt) : nice 1 p.w = true := by cases p <;> rfl
theorem nice_parts {n : Nat} (ps : List Pt) (h : ps.length < 100000) : nice (n + 2) (partsW ps) = true := by
  simp only [partsW, nice, Bool.and_eq_true, decide_eq_true_eq, List.all_eq_true, List.length_map]
  exact ⟨h, fun x hx => by obtain ⟨p, _, rfl⟩ := List.mem_map.mp hx; exact nice_mono (by omega) _ (nice_part p)⟩
theorem nice_deed (x : Nat × Dd) (h : DdOk x) : nice 5 (deedW x) = true := by
  obtain ⟨n, dd⟩ := x
  have e : nice 4 dd.w = true := by
    cases dd with
    | insert o pl ps =>
      have := nice_parts (n := 1) ps (by have := h.2.2.2.1; omega)
      simp [Dd.w, nice, this]
    | strike l => rfl
    | move l o pl => rfl
    | text l ps =>
      have := nice_parts (n := 1) ps (by have := h.2.2.1; omega)
      simp [Dd.w, nice, this]
    | count o => rfl
  simp [deedW, nice, e]
theorem P_law : P.fn n_law = some ⟨1, 9, d_law⟩ := rfl
def wd : Wd := lvl P 8
theorem wd_cf : wd.cf = run P 8 := lvl_cf P 8
def law_a : S := .asg (.v 3) (.lc [6] [6] .rng [.call n__law_drawn [.v 1, .c (.int 21)]] none (.call n__law_any [.v 1]))
def law_b : S := .asg (.v 4) (.mt (.c (.str [10])) .join [.lc [7, 8] [7, 8] .of [.v 3] none (.mt (.c (.str [32])) .join [.bin .add (.lst [.fn .str [.v 7]]) (.call n__law_words [.v 8])])])
def law_c : S := .asg (.v 5) (.fn .list [.v 3])
def law_d : S := .if_ (.or (.not (.call n__law_same [.call n_written [.v 5], .v 4])) (.or (.cmp .ne (.v 5) (.v 3)) (.not (.call n__law_same [.call n_read [.v 4], .v 3])))) [.ret (.c (.bl false))] []
def law_e : S := .ex (.mt (.call n_read [.v 4]) .append [.c (.int 0)])
theorem law_a_ok (G : Gp) (p : Nat) (h : St G p) (x0 x2 x3 x4 x5 x6 x7 x8 : Option R) : ∃ (ds : List (Nat × Dd)) (G' : Gp), exec wd law_a [x0, some (.val (.ref p)), x2, x3, x4, x5, x6, x7, x8] G = .nx [x0, some (.val (.ref p)), x2, some (.obj .own (.lst (ds.map deedW))), x4, x5, x6, x7, x8] G' ∧ ds.length ≤ 20 ∧ (∀ x ∈ ds, DdOk x) ∧ Dr p G G' ∧ St G' p := by
  obtain ⟨r, G1, e1, a1, b1, d1, s1⟩ := ev_draw 7 G p 1 21 [x0, some (.val (.ref p)), x2, x3, x4, x5, x6, x7, x8] rfl h (by decide) (by decide)
  have hs : small r = true := (small_iff r).mpr (by omega)
  have hw := walk_rngN (G := G1) hs
  have hc : ∀ G, chkW ([R.val (.int r)].map (kindR G1)) .rng [.val (.int r)] (rngW 0 r.toNat) G = true := fun G => by
    have := walk_rngN (G := G) hs
    simp [chkW, this, kindR, content]
  obtain ⟨ys, G2, e2, ⟨d2, s2⟩, l2, q2⟩ := lcL_draw (chk := chkW ([R.val (.int r)].map (kindR G1)) .rng [.val (.int r)] (rngW 0 r.toNat)) (step := fun x G => (lcStep [6] [6] (evC wd none) (ev wd (.call n__law_any [.v 1])) [x0, some (.val (.ref p)), x2, x3, x4, x5, x6, x7, x8] x G).calm)
    (fun G' => Dr p G1 G' ∧ St G' p) (fun y => ∃ x, DdOk x ∧ y = deedW x) (fun G _ => hc G) (rngW 0 r.toNat) G1 ⟨Dr.refl (by obtain ⟨_, _, _, _, _, q, _⟩ := s1.ex; exact (List.getElem?_eq_some_iff.mp q).1), s1⟩ (fun x hx G' hG => by
      obtain ⟨d3, s3⟩ := hG
      obtain ⟨y, G3, e3, hy, d4, s4⟩ := run_any 6 G' p s3
      refine ⟨deedW y, G3, ?_, ⟨d3.trans d4, s4⟩, y, hy, rfl⟩
      simp [lcStep, bindT, wipeS, getS, wd_cf, e3])
  obtain ⟨ds, rfl, hds⟩ := all_of q2
  rw [List.length_map, rng_len] at l2
  have hz : sizeL = 16777216 := rfl
  refine ⟨ds, G2, ?_, by omega, hds, d1.trans d2, s2⟩
  have hls : lockS [.call n__law_drawn [.v 1, .c (.int 21)]] G1 .rng [.val (.int r)] = true := rfl
  have lc := lcR_run hw rfl e2 (by rw [List.length_map]; omega)
  have e1' : ev wd (.call n__law_drawn [.v 1, .c (.int 21)]) [x0, some (.val (.ref p)), x2, x3, x4, x5, x6, x7, x8] G = .ok (.val (.int r)) G1 := e1
  rw [law_a, exec_asg, asgR_v, evA_def, ev_lc, evs_cons, e1']
  simp only [bind_ok, evs_nil, hls, if_true, lc, takA_own, so_ok]
  rfl
theorem law_b_ok (G : Gp) (x0 x1 x2 x4 x5 x6 x7 x8 : Option R) (ds : List (Nat × Dd)) (hl : ds.length ≤ 20) (h : ∀ x ∈ ds, DdOk x) : exec wd law_b [x0, x1, x2, some (.obj .own (.lst (ds.map deedW))), x4, x5, x6, x7, x8] G = .nx [x0, x1, x2, some (.obj .own (.lst (ds.map deedW))), some (.val (.str (writeT ds))), x5, x6, x7, x8] G := by
  have hz : sizeL = 16777216 := rfl
  have lc : lcR [7, 8] [7, 8] .of (evC wd none) (ev wd (.mt (.c (.str [32])) .join [.bin .add (.lst [.fn .str [.v 7]]) (.call n__law_words [.v 8])])) [x0, x1, x2, some (.obj .own (.lst (ds.map deedW))), x4, x5, x6, x7, x8] [.obj (.brw 3) (.lst (ds.map deedW))] G = .ok (.obj .own (.lst (ds.map fun x => .str (rowT x)))) G := by
    refine lcR_list deedW (fun x => .str (rowT x)) (walk_obj G _ _) rfl (fun x hx => ?_) (by omega)
    obtain ⟨n, dd⟩ := x
    have hx' := h _ hx
    obtain ⟨r1, r2, r3, r4, r5⟩ := row_ok _ hx'
    obtain ⟨_, _, _, _, r6⟩ := rowT_ok _ hx'
    have h3 : ((n : Int)) < 10000000000 := by simp only at r4; omega
    have hw := run_words_dd 7 G n dd r5
    have hcons : showN n :: (rowWs (n, dd)).drop 1 = rowWs (n, dd) := by cases dd <;> rfl
    have hlen : 1 + ((rowWs (n, dd)).drop 1).length ≤ sizeL := by rw [List.length_drop]; omega
    have hj : ((rowWs (n, dd)).map (·.length)).sum + (rowWs (n, dd)).length * ([32] : Tx).length ≤ sizeL := by
      unfold rowZ at r6
      simp only [List.length_cons, List.length_nil]
      omega
    have hjn := mt_join (G := G) (k := .own) hj
    have hc2 : W.str (showN n) :: ((rowWs (n, dd)).drop 1).map .str = (rowWs (n, dd)).map .str := by rw [← List.map_cons, hcons]
    have hlen2 : [W.str (showN n)].length + (((rowWs (n, dd)).drop 1).map W.str).length ≤ sizeL := by
      rw [List.length_map]; exact hlen
    have hba := bin_add_lst (G := G) (k := .own) (k2 := .own) hlen2
    rw [List.singleton_append, hc2] at hba
    have e1 : ev wd (.bin .add (.lst [.fn .str [.v 7]]) (.call n__law_words [.v 8])) [x0, x1, x2, some (.obj .own (.lst (ds.map deedW))), x4, x5, x6, some (.val (.int n)), some (.val dd.w)] G = .ok (.obj .own (.lst ((rowWs (n, dd)).map .str))) G := by
      simp only [ev_bin, ev_lst, evW_cons, ev_fn, evs_cons, ev_v, evs_nil, evW_nil, getS, List.getElem?_cons_succ, List.getElem?_cons_zero, opt_some, bind_ok, fn_str_int (G := G) (Int.natCast_nonneg n) h3, Int.toNat_natCast, toW_val, lstR_1, ev_call, wd_cf, callR_def, noTop_val, noTop_nil, if_true, List.map_cons, List.map_nil, asArg_val, hw, eo_ok, hba]
    simp only [lcStep, deedW, bindT, wipeS, List.set_cons_succ, List.set_cons_zero, List.length_cons, List.length_nil, List.zip_cons_cons, List.zip_nil_right, List.foldl_cons, List.foldl_nil, if_true, evC_none, bind_ok, ev_mt, ev_c, kind_str, opt_some, evs_cons, e1, evs_nil, hjn, toW_val]
    rfl
  have hls : lockS [.v 3] G .of [.obj (.brw 3) (.lst (ds.map deedW))] = true := rfl
  have hs := sum_le (l := ds.map rowT) (k := 630) fun w hw => by
    obtain ⟨x, hx, rfl⟩ := List.mem_map.mp hw
    exact (rowT_ok x (h x hx)).2.2.1
  rw [List.length_map] at hs
  have hj : ((ds.map rowT).map (·.length)).sum + (ds.map rowT).length * ([10] : Tx).length ≤ sizeL := by
    rw [List.length_map]
    simp only [List.length_cons, List.length_nil]
    omega
  have hjn := mt_join (G := G) (k := .own) hj
  rw [List.map_map] at hjn
  have hjn' : mtE .str (.val (.str [10])) .join [.obj .own (.lst (ds.map fun x => .str (rowT x)))] G = .ok (.val (.str (writeT ds))) G := hjn
  rw [law_b, exec_asg, asgR_v, evA_def, ev_mt, ev_c, bind_ok, kind_str, opt_some, bind_ok, evs_cons, ev_lc, evs_cons, ev_v]
  simp only [getS, List.getElem?_cons_succ, List.getElem?_cons_zero, opt_some, bind_ok, evs_nil, hls, if_true, lc, hjn', takA_val, so_ok]
  rfl
theorem law_d_ok (G : Gp) (x0 x1 x2 x5 x6 x7 x8 : Option R) (ds : List (Nat × Dd)) (hl : ds.length ≤ 20) (h : ∀ x ∈ ds, DdOk x) : execs wd [law_c, law_d, law_e] [x0, x1, x2, some (.obj .own (.lst (ds.map deedW))), some (.val (.str (writeT ds))), x5, x6, x7, x8] G = .nx [x0, x1, x2, some (.obj .own (.lst (ds.map deedW))), some (.val (.str (writeT ds))), some (.obj .own (.lst (ds.map deedW))), x6, x7, x8] G := by
  have hz : sizeL = 16777216 := rfl
  obtain ⟨rb, rl, rr⟩ := read_back ds h hl
  have hs := sum_le (l := ds.map rowT) (k := 630) fun w hw => by
    obtain ⟨x, hx, rfl⟩ := List.mem_map.mp hw
    exact (rowT_ok x (h x hx)).2.2.1
  rw [List.length_map] at hs
  have hwr := run_written 6 G false ds (fun x hx => ⟨(row_ok x (h x hx)).2.2.2.1, (row_ok x (h x hx)).2.2.2.2, by have := (rowT_ok x (h x hx)).2.2.2.2; omega⟩) (by omega) (by omega)
  have hrd := run_read 2 G (writeT ds) rl rr
  rw [rb] at hrd
  have hrd' : run P 8 n_read [.val (.str (writeT ds))] G = .ok (.obj .own (.lst (ds.map deedW))) G := hrd
  have hnice : (ds.map deedW).all (nice 5) = true := by
    simp only [List.all_eq_true, List.mem_map]
    rintro w ⟨x, hx, rfl⟩
    exact nice_deed x (h x hx)
  have hsame := same_lst 5 1 G true false (ds.map deedW) (by rw [List.length_map]; omega) hnice
  have hsame1 := same_val 0 7 G (.str (writeT ds)) rfl
  have heq := eqL_refl (by decide) hnice
  have hwr' : run P 8 n_written [.obj .frz (.lst (ds.map deedW))] G = .ok (.val (.str (writeT ds))) G := hwr
  have hsame' : run P 8 n__law_same [.obj .own (.lst (ds.map deedW)), .obj .frz (.lst (ds.map deedW))] G = .ok (.val (.bl true)) G := hsame
  have hsame1' : run P 8 n__law_same [.val (.str (writeT ds)), .val (.str (writeT ds))] G = .ok (.val (.bl true)) G := hsame1
  have hap := mt_app_own (xs := ds.map deedW) (x := .int 0) (G := G) (by rw [List.length_map]; omega)
  simp [law_c, law_d, law_e, getS, wd_cf, hwr', hsame1', hrd', hsame', heq, hap]
def law_body : List S := [law_a, law_b, law_c, law_d, law_e]
theorem law_loop (p : Nat) {chk : Gp → Bool} (hc : ∀ G, chk G = true) (x0 : Option R) : ∀ (its : List W) (G : Gp) (x2 x3 x4 x5 x6 x7 x8 : Option R), St G p →
    ∃ (x2' x3' x4' x5' x6' x7' x8' : Option R) (G' : Gp), forL (turnL [2] (execs wd law_body)) chk its [x0, some (.val (.ref p)), x2, x3, x4, x5, x6, x7, x8] G = .nx [x0, some (.val (.ref p)), x2', x3', x4', x5', x6', x7', x8'] G' := by
  intro its
  induction its with
  | nil => intro G x2 x3 x4 x5 x6 x7 x8 h; exact ⟨x2, x3, x4, x5, x6, x7, x8, G, forL_nil (hc G)⟩
  | cons x its ih =>
    intro G x2 x3 x4 x5 x6 x7 x8 h
    obtain ⟨ds, G1, e1, l1, d1, _, s1⟩ := law_a_ok G p h x0 (some (.val x)) x3 x4 x5 x6 x7 x8
    have e2 := law_b_ok G1 x0 (some (.val (.ref p))) (some (.val x)) x4 x5 x6 x7 x8 ds l1 d1
    have e3 := law_d_ok G1 x0 (some (.val (.ref p))) (some (.val x)) x5 x6 x7 x8 ds l1 d1
    obtain ⟨y2, y3, y4, y5, y6, y7, y8, G2, e4⟩ := ih G1 (some (.val x)) (some (.obj .own (.lst (ds.map deedW)))) (some (.val (.str (writeT ds)))) (some (.obj .own (.lst (ds.map deedW)))) x6 x7 x8 s1
    refine ⟨y2, y3, y4, y5, y6, y7, y8, G2, ?_⟩
    rw [forL_cons (hc G), turn_one]
    simp only [List.set_cons_succ, List.set_cons_zero]
    rw [law_body, execs_cons, e1, then_nx, execs_cons, e2, then_nx, e3, loop_nx]
    exact e4
theorem run_law (ns : List Int) : ∃ G', run P 9 n_law [.val (.ref 0)] [.frz (.lst (ns.map .int))] = .ok (.val (.bl true)) G' := by
  rw [run_body P_law rfl]
  obtain ⟨m, hm, es⟩ := run_start 7 [.frz (.lst (ns.map .int))] ns rfl
  have hst : St ([GO.frz (.lst (ns.map .int))] ++ [.obj (.lst [.ref 0, .int 0, .int m, .int 0])]) 1 := ⟨ns, 0, m, 0, rfl, rfl, by decide, hm, by decide⟩
  generalize hG : [GO.frz (.lst (ns.map .int))] ++ [.obj (.lst [.ref 0, .int 0, .int m, .int 0])] = G1 at hst
  obtain ⟨x2, x3, x4, x5, x6, x7, x8, G2, e⟩ := law_loop 1 (chk := chkW ([R.val (.int 5)].map (kindR G1)) .rng [.val (.int 5)] (rngW 0 5)) (fun G => by simp [chkW, walk, kindR, content]) (some (.val (.ref 0))) (rngW 0 5) G1 none none none none none none none hst
  refine ⟨G2, ?_⟩
  have hw : walk G1 .rng [.val (.int 5)] = some (rngW 0 5) := rfl
  have r1 := run_read 2 G2 [] (by decide) (by decide)
  have r2 := run_written 6 G2 true [] (by simp) (by decide) (by decide)
  have r1' : run P 8 n_read [.val (.str [])] G2 = .ok (.obj .own (.lst [])) G2 := r1
  have r2' : run P 8 n_written [.obj .own (.lst [])] G2 = .ok (.val (.str [])) G2 := r2
  have es' : run P 8 n__law_start [.val (.ref 0)] [.frz (.lst (ns.map .int))] = .ok (.obj .own (.lst [.ref 0, .int 0, .int m, .int 0])) [.frz (.lst (ns.map .int))] := es
  have hls : lockS [.c (.int 5)] G1 .rng [.val (.int 5)] = true := rfl
  show (execs wd [.asg (.vb 1) (.call n__law_start [.v 0]), .for_ [2] .rng [.c (.int 5)] law_body, .ret (.and (.cmp .eq (.call n_read [.c (.str [])]) (.lst [])) (.cmp .eq (.call n_written [.lst []]) (.c (.str []))))] [some (.val (.ref 0)), none, none, none, none, none, none, none, none] [.frz (.lst (ns.map .int))]).fo = _
  have e1 : exec wd (.asg (.vb 1) (.call n__law_start [.v 0])) [some (.val (.ref 0)), none, none, none, none, none, none, none, none] [.frz (.lst (ns.map .int))] = .nx [some (.val (.ref 0)), some (.val (.ref 1)), none, none, none, none, none, none, none] G1 := by
    simp [getS, wd_cf, es', stW, ← hG]
  have e2 : exec wd (.for_ [2] .rng [.c (.int 5)] law_body) [some (.val (.ref 0)), some (.val (.ref 1)), none, none, none, none, none, none, none] G1 = .nx [some (.val (.ref 0)), some (.val (.ref 1)), x2, x3, x4, x5, x6, x7, x8] G2 := by
    rw [exec_for, evs_cons, ev_c, bind_ok, evs_nil, bind_ok, so_ok, if_pos hls, forR_eq hw rfl]
    exact e
  rw [execs_cons, e1, then_nx, execs_cons, e2, then_nx]
  simp [getS, wd_cf, r1', r2']
end Mi
namespace Mi
open PySem PySem.Spec PyProof.Rows L2
def topS (i : Nat) : Stmt := PySem.Challenge.pw_citehall_k13_written_and_read.main.body.getD i (.Pass ⟨0, 0, 0, 0⟩)
def fns0 : List En := [En.of n_mark_of "mark_of" 1 ["word", "letter", "figures", "sign"] (topS 9),
  En.of n_marks_of "marks_of" 1 ["label", "found", "word"] (topS 10),
  En.of n_is_part "is_part" 1 ["part", "sign"] (topS 11),
  En.of n_words_of_text "words_of_text" 1 ["parts", "found", "part"] (topS 17),
  En.of n_written "written" 1 ["deeds", "rows", "day", "what", "words"] (topS 18),
  En.of n_number_of "number_of" 1 ["word", "sign"] (topS 19),
  En.of n_parts_from "parts_from" 1 ["words", "found", "left", "part"] (topS 20),
  En.of n_label_from "label_from" 2 ["word", "may_be_book"] (topS 21),
  En.of n_deed_of "deed_of" 1 ["words", "day", "word", "label", "other", "place", "parts"] (topS 22),
  En.of n_read "read" 1 ["text", "found", "number", "row", "one"] (topS 23),
  En.of n__law_start "_law_start" 1 ["_law_script", "_law_mixed", "_law_cell"] (topS 25),
  En.of n__law_drawn "_law_drawn" 2 ["_law_state", "_law_many", "_law_found", "_law_cell"] (topS 26),
  En.of n__law_same "_law_same" 2 ["_law_found", "_law_due", "_law_k"] (topS 27),
  En.of n__law_any "_law_any" 1 ["_law_state", "_law_labels", "_law_label", "_law_other", "_law_day", "_law_place", "_law_parts", "_law_k", "_law_cite", "_law_some"] (topS 28),
  En.of n__law_words "_law_words" 1 ["_law_what", "_law_found", "_law_one", "_law_part"] (topS 29),
  En.of n_law "law" 1 ["_law_script", "_law_state", "_law_turn", "_law_deeds", "_law_text", "_law_handed", "_law_k", "_law_day", "_law_what"] (topS 30)]
def fns : List En := fns0
def cs : List Ce := [.int n_MOST_DEEP "MOST_DEEP" 4,
  .int n_MOST_WORD "MOST_WORD" 20,
  .str n_LETTERS "LETTERS" [97, 98, 99, 100, 101, 102, 103, 104, 105, 106, 107, 108, 109, 110, 111, 112, 113, 114, 115, 116, 117, 118, 119, 120, 121, 122],
  .str n_FIGURES "FIGURES" [48, 49, 50, 51, 52, 53, 54, 55, 56, 57],
  .tup n_CITES "CITES" [[97, 115], [115, 101, 101]],
  .int n_MOST_DEEDS "MOST_DEEDS" 200,
  .int n_MOST_FIGURES "MOST_FIGURES" 3,
  .str n_BOOK "BOOK" [98, 111, 111, 107],
  .dct n_SIZES "SIZES" [([105, 110, 115, 101, 114, 116], 4), ([115, 116, 114, 105, 107, 101], 3), ([109, 111, 118, 101], 5), ([116, 101, 120, 116], 3), ([99, 111, 117, 110, 116], 3)]]
theorem cs_ok : ∀ c ∈ cs, P.gl c.k = some c.r := by
  intro c hc
  have : cs.all (fun c => decide (P.gl c.k = some c.r)) = true := by decide +kernel
  exact of_decide_eq_true (List.all_eq_true.mp this c hc)
theorem fns0_b : AllP BindE fns0 := ⟨(fun _ _ _ _ _ _ us hl => match us, hl with | [_], _ => rfl), (fun _ _ _ _ _ _ us hl => match us, hl with | [_], _ => rfl), (fun _ _ _ _ _ _ us hl => match us, hl with | [_], _ => rfl), (fun _ _ _ _ _ _ us hl => match us, hl with | [_], _ => rfl), (fun _ _ _ _ _ _ us hl => match us, hl with | [_], _ => rfl), (fun _ _ _ _ _ _ us hl => match us, hl with | [_], _ => rfl), (fun _ _ _ _ _ _ us hl => match us, hl with | [_], _ => rfl), (fun _ _ _ _ _ _ us hl => match us, hl with | [_, _], _ => rfl), (fun _ _ _ _ _ _ us hl => match us, hl with | [_], _ => rfl), (fun _ _ _ _ _ _ us hl => match us, hl with | [_], _ => rfl), (fun _ _ _ _ _ _ us hl => match us, hl with | [_], _ => rfl), (fun _ _ _ _ _ _ us hl => match us, hl with | [_, _], _ => rfl), (fun _ _ _ _ _ _ us hl => match us, hl with | [_, _], _ => rfl), (fun _ _ _ _ _ _ us hl => match us, hl with | [_], _ => rfl), (fun _ _ _ _ _ _ us hl => match us, hl with | [_], _ => rfl), (fun _ _ _ _ _ _ us hl => match us, hl with | [_], _ => rfl), trivial⟩
theorem fns0_c : fns0.all (enOk P (cfnOf fns) (cglOf cs)) = true := by decide +kernel
theorem AllP.app {α : Type} {p : α → Prop} : ∀ {a b : List α}, AllP p a → AllP p b → AllP p (a ++ b)
  | [], _, _, h => h
  | _ :: _, _, h, g => ⟨h.1, AllP.app h.2 g⟩
theorem fns_b : AllP BindE fns := fns0_b
theorem fns_c : fns.all (enOk P (cfnOf fns) (cglOf cs)) = true := fns0_c
def names0 : List PySem.Str := ["CiteError", "BadText", "MOST_DEEP", "MOST_WORD", "LETTERS", "FIGURES", "CITES", "mark_of", "marks_of", "is_part", "MOST_DEEDS", "MOST_FIGURES", "BOOK", "SIZES", "words_of_text", "written", "number_of", "parts_from", "label_from", "deed_of"]
def names1 : List PySem.Str := ["read", "_law_start", "_law_drawn", "_law_same", "_law_any", "_law_words"]
def names : List PySem.Str := names0 ++ names1
abbrev Rw : PySem.W.OpenRow := PySem.W.OpenLaw.row PySem.Challenge.rw_citehall_k13_written_and_read
def tp_hk : PySem.W.Hook := He.hookX 5 (faOf fns) (fns.map En.dd) (tsOf cs) [] (exOf cs)
def tp_ob (s : PySem.W.SharedT) : He.AlX := He.obsX 5 (faOf fns) (fns.map En.dd) (tsOf cs) [] (exOf cs) (HandSHeadRun.getT s)
theorem tp_ob_eq (s : PySem.W.SharedT ) : tp_ob s = tp_hk.obs s.abs := He.obsX_eq (HandSHeadRun.getT_eq s)
set_option maxHeartbeats 0 in
theorem run_f (w : World) : HandSHeadRun.RunEq Rw (PySem.W.view Rw.prog [30]) tp_hk tp_ob 20000 names (w.withFollow "special-get-raises" false) := by
  intro os
  kernel_rfl
set_option maxHeartbeats 0 in
theorem run_t (w : World) : HandSHeadRun.RunEq Rw (PySem.W.view Rw.prog [30]) tp_hk tp_ob 20000 names (w.withFollow "special-get-raises" true) := by
  intro os
  kernel_rfl
theorem run_top (w : World) : HandSHeadRun.RunEq Rw (PySem.W.view Rw.prog [30]) tp_hk tp_ob 20000 names w := PySem.W.byRow2 "special-get-raises" (P := HandSHeadRun.RunEq Rw (PySem.W.view Rw.prog [30]) tp_hk tp_ob 20000 names) run_f run_t w
theorem law_fact {P0 : Program} {w : World} {K : PySem.W.Frag} {h : Heap} {mg : Str → Option Value} {f : Addr} (D : Nat) (X : K.In h) (G : h.Ns mainGlobals mg) (hfa : mg ("law" : Str) = some (.ref f)) (c : He.SaysX (faOf fns) (fns.map En.dd) (tsOf cs) [] (exOf cs) w h K) :
    ∃ fd : FuncData, (∀ (s : Shared) (v : Value), BindsTo s fd ⟨[v], []⟩ [("_law_script", v)]) ∧ ∀ base : Heap, K.In base → base.Ns mainGlobals mg → FnOk P0 w K mg base (L2.CX P0 w) D f fd ["_law_script"] (spC ⟨[], fun _ => 0⟩ ⟨K, w⟩ 1 (run P D n_law)) := by
  have hlaw : cfnOf fns n_law = some (("law" : Str), 1) := by decide +kernel
  have hps : psOf fns n_law = [("_law_script" : Str)] := by decide +kernel
  have hin : En.of n_law "law" 1 ["_law_script", "_law_state", "_law_turn", "_law_deeds", "_law_text", "_law_handed", "_law_k", "_law_day", "_law_what"] (topS 30) ∈ fns := by simp [fns, fns0]
  obtain ⟨fd0, FD0⟩ := c.t.d.defs (d := (En.of n_law "law" 1 ["_law_script", "_law_state", "_law_turn", "_law_deeds", "_law_text", "_law_handed", "_law_k", "_law_day", "_law_what"] (topS 30)).dd) (List.mem_map.mpr ⟨_, hin, rfl⟩)
  have e := hfa.symm.trans (He.glo_ok X G (c.t.d.facts (f := .glo "law") (List.mem_append.mpr (.inr (List.mem_map.mpr ⟨_, hin, rfl⟩)))))
  cases e
  have b := FunD.bindsA (ps := ["_law_script"]) FD0 fun _ _ _ _ _ _ us hl => match us, hl with | [_], _ => rfl
  refine ⟨fd0, fun s v => b s [v] rfl, fun base Xb Gb => ?_⟩
  have O : Top ⟨[], fun _ => 0⟩ P0 w K mg base P (cfnOf fns) (cglOf cs) (psOf fns) := top_ok ⟨[], fun _ => 0⟩ X G c fns_b fns_c cs_ok
  obtain ⟨fa, fd, h1, h2, h3, h4, h5, oc, od, osl, lk⟩ := all_ok O D n_law "law" 1 hlaw
  rw [hps] at h2
  have e2 := h3.symm.trans hfa
  cases e2
  obtain ⟨oc', od', dV, kV, doc, pm, an, cdv, ct, osl', e3, lk', _⟩ := FD0.ex
  have e4 := lk.symm.trans lk'
  cases e4
  exact h2
end Mi
open PySem PySem.W PySem.Calls PyProof.Rows
theorem holds_of (D : Nat) (hD : L2.Room D callerA) (hl : ∀ ns : List Int, ns.length ≤ 63 → ∃ G', Mi.run Mi.P D Mi.n_law [.val (.ref 0)] [.frz (.lst (ns.map .int))] = .ok (.val (.bl true)) G') : PySem.Challenge.rw_citehall_k13_written_and_read.Holds := by
  w_on; o_law
  refine HandSHeadRun.head_any (r := OpenLaw.row PySem.Challenge.rw_citehall_k13_written_and_read) (q := view (OpenLaw.row PySem.Challenge.rw_citehall_k13_written_and_read).prog [30]) (H := Mi.tp_hk) (ob := Mi.tp_ob) (M := 20000) (loose := Mi.names) (d := HandSHeadRun.topDef (OpenLaw.row PySem.Challenge.rw_citehall_k13_written_and_read).prog 30) (kwd := []) Mi.tp_ob_eq
    (by kernel_rfl) (fun s => by kernel_rfl) Mi.run_top (by kernel_rfl) (by kernel_rfl) (by kernel_rfl) (by rfl) (by first | assumption | decide +kernel) (by decide +kernel) ⟨rfl, rfl, rfl, rfl, rfl, by decide +kernel⟩ ?hw ?hc
  case hw => w_witness2
  case hc =>
    refine Mi.walk_ofM (l := PySem.Challenge.rw_citehall_k13_written_and_read) (n := 63) (k := D) (x := "_law_script") rfl (by decide) (by kernel_rfl) hD ?F
    intro w mg fa h Y G hmg0
    obtain ⟨K, KX, c⟩ := Y
    have hmg : mg ("law" : PySem.Str) = some (.ref fa) := by
      have e : (HandSHeadRun.topDef (OpenLaw.row PySem.Challenge.rw_citehall_k13_written_and_read).prog 30).name = ("law" : PySem.Str) := by kernel_rfl
      rw [← e]
      exact hmg0
    obtain ⟨fd, hb, hF⟩ := Mi.law_fact (P0 := (PySem.Challenge.rw_citehall_k13_written_and_read).prog) (w := w) D KX G hmg c
    refine ⟨K, fd, Mi.spC ⟨[], fun _ => 0⟩ ⟨K, w⟩ 1 (Mi.run Mi.P D Mi.n_law), KX, hb, fun H a ns hl' _ hS => ?_, hF⟩
    obtain ⟨G', hr⟩ := hl ns hl'
    exact Mi.law_sp hS hr
theorem PySem.Challenge.cw_citehall_k13_written_and_read_holds : PySem.Challenge.rw_citehall_k13_written_and_read.Holds := by
  exact holds_of 9 ⟨rfl, by decide, by decide⟩ fun ns _ => Mi.run_law ns
