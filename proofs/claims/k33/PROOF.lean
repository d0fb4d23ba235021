import PyProof.Rows.All
import Wide.All
import OpenK.AllK
import Wide.FinOn
import HandS.Base
import HandS.Call
import HandS.List
import HandS.Comp
import HandS.Iter
import HandS.Text
import HandS.Dict
import HandS.ExcOwn
import HandS.Exc
import HandS.ForMost
import HandS.Wide
import HandS.WideBits
import HandS.CallSlots
import HandS.IsInst
import KE.KTupSum
import KE.DatumOrd
import PyProof.ReprRoads
import PyProof.ReprBulk
import HandS.TupAny
import HandS.TupMul
import HandS.Deep
import HandS.Style
import HandS.Flow
import HandS.Lambda
import HandS.Zip
import KE.GoesEnum
import KE.GoesMore
import HandS.WordsExc
import HandS.Defaults
import HandS.Ends
import HandS.EndBits
import HandS.HeadHook2
import HandS.HeadEnd
import KE.KStateDown
import HandS.Head0
import HandS.Head1
import HandS.Head2
import PySem.Challenge.RW_ratherroad_k33_penalties
set_option Elab.async false
set_option linter.all false
set_option maxRecDepth 100000
set_option maxHeartbeats 4000000
namespace Mp
open PySem

/-- tree values; cell: a place in the store -/
inductive Tv where
  | non | bl (b : Bool) | int (i : Int) | str (s : Str)
  | tup (ts : List Tv) | lst (ts : List Tv) | dct | scr (ts : List Tv)
  | ins (c : Nat) (fs : List Tv)
  | cell (n : Nat)
/-- what stands in the store -/
inductive Ob where
  | lst (ts : List Tv) | ins (c : Nat) (fs : List Tv) | dct (kvs : List (Tv × Tv))

mutual
def Tv.beq : Tv → Tv → Bool
  | .non, .non => true
  | .bl a, .bl b => a == b
  | .int a, .int b => decide (a = b)
  | .str a, .str b => decide (a = b)
  | .tup a, .tup b => Tv.beqs a b
  | .lst a, .lst b => Tv.beqs a b
  | .dct, .dct => true
  | .scr a, .scr b => Tv.beqs a b
  | .ins c a, .ins d b => decide (c = d) && Tv.beqs a b
  | .cell a, .cell b => decide (a = b)
  | _, _ => false
def Tv.beqs : List Tv → List Tv → Bool
  | [], [] => true
  | a :: r, b :: s => Tv.beq a b && Tv.beqs r s
  | _, _ => false
end
mutual
theorem Tv.beq_eq : ∀ (a b : Tv), Tv.beq a b = true → a = b
  | .non, b, h => by cases b <;> simp [Tv.beq] at h ⊢
  | .bl _, b, h => by cases b <;> simp [Tv.beq] at h ⊢; exact h
  | .int _, b, h => by cases b <;> simp [Tv.beq] at h ⊢; exact h
  | .str _, b, h => by cases b <;> simp [Tv.beq] at h ⊢; exact h
  | .tup a, b, h => by
    cases b <;> simp [Tv.beq] at h ⊢
    exact Tv.beqs_eq _ _ h
  | .lst a, b, h => by
    cases b <;> simp [Tv.beq] at h ⊢
    exact Tv.beqs_eq _ _ h
  | .dct, b, h => by cases b <;> simp [Tv.beq] at h ⊢
  | .scr a, b, h => by
    cases b <;> simp [Tv.beq] at h ⊢
    exact Tv.beqs_eq _ _ h
  | .ins _ a, b, h => by
    cases b <;> simp [Tv.beq] at h ⊢
    exact ⟨h.1, Tv.beqs_eq _ _ h.2⟩
  | .cell _, b, h => by cases b <;> simp [Tv.beq] at h ⊢; exact h
theorem Tv.beqs_eq : ∀ (a b : List Tv), Tv.beqs a b = true → a = b
  | [], b, h => by cases b <;> simp [Tv.beqs] at h ⊢
  | x :: r, b, h => by
    cases b <;> simp [Tv.beqs] at h ⊢
    exact ⟨Tv.beq_eq _ _ h.1, Tv.beqs_eq _ _ h.2⟩
end
mutual
theorem Tv.beq_self : ∀ (a : Tv), Tv.beq a a = true
  | .non => rfl
  | .bl _ => by simp [Tv.beq]
  | .int _ => by simp [Tv.beq]
  | .str _ => by simp [Tv.beq]
  | .tup a => by simp only [Tv.beq]; exact Tv.beqs_self a
  | .lst a => by simp only [Tv.beq]; exact Tv.beqs_self a
  | .dct => rfl
  | .scr a => by simp only [Tv.beq]; exact Tv.beqs_self a
  | .ins _ a => by simp [Tv.beq]; exact Tv.beqs_self a
  | .cell _ => by simp [Tv.beq]
theorem Tv.beqs_self : ∀ (a : List Tv), Tv.beqs a a = true
  | [] => rfl
  | x :: r => by simp only [Tv.beqs, Tv.beq_self x, Tv.beqs_self r, Bool.and_self]
end
instance : DecidableEq Tv := fun a b =>
  if h : Tv.beq a b = true then isTrue (Tv.beq_eq a b h) else isFalse fun e => h (by subst e; exact Tv.beq_self a)
def Ob.beq : Ob → Ob → Bool
  | .lst a, .lst b => decide (a = b)
  | .ins c a, .ins d b => decide (c = d) && decide (a = b)
  | .dct a, .dct b => decide (a = b)
  | _, _ => false
instance : DecidableEq Ob := fun a b =>
  if h : Ob.beq a b = true then isTrue (by cases a <;> cases b <;> simp [Ob.beq] at h ⊢ <;> exact h)
  else isFalse fun e => h (by subst e; cases a <;> simp [Ob.beq])

abbrev Sto := List Ob
abbrev Env := List (Option Tv)
/-- an expression's result: a value, an error (its class, its fields), nothing told -/
inductive Rs (α : Type) where
  | ok (a : α) (S : Sto) | ex (c : Nat) (fs : List Tv) (S : Sto) | bad
abbrev M (α : Type) := Sto → Rs α
@[reducible] def ret {α : Type} (a : α) : M α := fun S => .ok a S
@[reducible] def bad {α : Type} : M α := fun _ => .bad
def Rs.bnd {α β : Type} (r : Rs α) (f : α → M β) : Rs β :=
  match r with
  | .ok a S => f a S
  | .ex c fs S => .ex c fs S
  | .bad => .bad
def bnd {α β : Type} (m : M α) (f : α → M β) : M β := fun S => (m S).bnd f
def opt {α : Type} : Option α → M α
  | some a => ret a
  | none => bad
theorem bnd_ok {α β : Type} {m : M α} {f : α → M β} {S S' : Sto} {a : α} (h : m S = .ok a S') : bnd m f S = f a S' := by
  unfold bnd; rw [h]; rfl

/-! ### the text -/
inductive Bo where | add | sub | mul | fdiv | mod | pow
  deriving DecidableEq
inductive Co where | eq | ne | lt | le | gt | ge | isin | notin
  deriving DecidableEq
/-- built-ins by value -/
inductive Pr where | len | tuple | int | abs | sum | max | min | max2 | min2 | minD | all | any | repr | str
  deriving DecidableEq
inductive Kd where | int | bool | tuple | str | list | cls (c : Nat)
  deriving DecidableEq
inductive Tg where | v (i : Nat) | tup (ts : List Tg)
mutual
inductive Ex where
  | nop | var (i : Nat) | int (i : Int) | str (s : Str) | bl (b : Bool) | non
  | gl (x : Str) (t : Tv)
  | bin (o : Bo) (a b : Ex) | neg (a : Ex)
  | cmp (o : Co) (a b : Ex) | chain (o p : Co) (a b c : Ex)
  | isC (ng : Bool) (a : Ex) (c : Option Bool)
  | bop (an : Bool) (es : List Ex) | nt (a : Ex) | ite (c a b : Ex)
  | tup (es : List Ex)
  | fz (l : Lx) | mu (l : Lx)
  | call (f : Nat) (es : List Ex)
  | prim (p : Pr) (es : List Ex)
  | isi (a : Ex) (k : Kd)
  | ix (a i : Ex) | sl (a lo hi : Ex) | rev (a : Ex)
  | pop (a : Ex) | popAt (a i : Ex) | app (a e : Ex)
inductive Lx where
  | disp (es : List Ex)
  | comp (own : List Nat) (elt : Ex) (tg : Tg) (it : Ix) (c : Ex)
  | ofSeq (a : Ex)
inductive Ix where
  | seq (a : Ex) | rng (a : Ex) | rng2 (a b : Ex) | zip (a b : Ex) | enum (a : Ex)
end
inductive Sx where
  | asg (t : Tg) (e : Ex)
  | drop (e : Ex)
  | setIx (a i e : Ex)
  | ifS (c : Ex) (a b : List Sx)
  | whileS (c : Ex) (a : List Sx)
  | forS (t : Tg) (it : Ix) (a : List Sx)
  | ret (e : Ex)
  | brk | cont | pass
/-- a statement's end -/
inductive Sr where
  | nx (env : Env) (S : Sto) | rt (t : Tv) (S : Sto) | bk (env : Env) (S : Sto) | ct (env : Env) (S : Sto)
  | ex (c : Nat) (fs : List Tv) (env : Env) (S : Sto) | bad

/-! ### values -/
def lstOf (S : Sto) : Tv → Option (List Tv)
  | .lst ts => some ts
  | .cell n => match S[n]? with
    | some (.lst ts) => some ts
    | _ => none
  | _ => none
def seqOf (S : Sto) : Tv → Option (List Tv)
  | .tup ts => some ts
  | .lst ts => some ts
  | .cell n => match S[n]? with
    | some (.lst ts) => some ts
    | _ => none
  | _ => none
@[irreducible] def lim : Nat := 1000000
def addV (S : Sto) : Tv → Tv → Option Tv
  | .int i, .int j => some (.int (i + j))
  | .str x, .str y => if x.length + y.length ≤ lim then some (.str (x ++ y)) else none
  | .tup x, .tup y => if x.length + y.length ≤ lim then some (.tup (x ++ y)) else none
  | .lst x, .lst y => if x.length + y.length ≤ lim then some (.lst (x ++ y)) else none
  | .cell n, y => match lstOf S (.cell n), lstOf S y with
    | some u, some v => if u.length + v.length ≤ lim then some (.lst (u ++ v)) else none
    | _, _ => none
  | .lst x, y => match lstOf S y with
    | some v => if x.length + v.length ≤ lim then some (.lst (x ++ v)) else none
    | _ => none
  | _, _ => none
def rep {α : Type} (k : Nat) (xs : List α) : List α := (List.replicate k xs).flatten
def mulV : Tv → Tv → Option Tv
  | .int i, .int j => if i.natAbs.log2 + j.natAbs.log2 < 1000000 then some (.int (i * j)) else none
  | .tup x, .int j => if 1 ≤ j ∧ j ≤ 1000 ∧ x.length ≤ 1000 ∧ x ≠ [] then some (.tup (rep j.toNat x)) else none
  | .lst x, .int j => if 0 ≤ j ∧ j ≤ 1000 ∧ x.length ≤ 1000 then some (.lst (rep j.toNat x)) else none
  | _, _ => none
def binV (o : Bo) (S : Sto) (a b : Tv) : Option Tv :=
  match o with
  | .add => addV S a b
  | .mul => mulV a b
  | .sub => match a, b with
    | .int i, .int j => some (.int (i - j))
    | _, _ => none
  | .fdiv => match a, b with
    | .int i, .int j => if 0 < j ∧ j.natAbs.log2 < 9000 then some (.int (i / j)) else none
    | _, _ => none
  | .mod => match a, b with
    | .int i, .int j => if 0 < j then some (.int (i % j)) else none
    | _, _ => none
  | .pow => match a, b with
    | .int i, .int j => if 0 ≤ j ∧ j ≤ 1000000 ∧ i.natAbs < 2 ^ 64 then some (.int (i ^ j.toNat)) else none
    | _, _ => none
mutual
/-- data that == takes: depth at most k, no dict, no object -/
def Tv.dOk : Nat → Tv → Bool
  | _, .non => true
  | _, .bl _ => true
  | _, .int _ => true
  | _, .str x => PyData.canLay0 (.str x)
  | k + 1, .tup ts => Tv.dOks k ts
  | k + 1, .lst ts => Tv.dOks k ts
  | _, _ => false
def Tv.dOks : Nat → List Tv → Bool
  | _, [] => true
  | k, t :: r => Tv.dOk k t && Tv.dOks k r
end
mutual
def Tv.eqb : Tv → Tv → Bool
  | .non, .non => true
  | .bl a, .bl b => a == b
  | .bl a, .int j => (if a then 1 else 0) == j
  | .int i, .bl b => i == (if b then 1 else 0)
  | .int i, .int j => i == j
  | .str x, .str y => x == y
  | .lst xs, .lst ys => Tv.eqbs xs ys
  | .tup xs, .tup ys => Tv.eqbs xs ys
  | _, _ => false
def Tv.eqbs : List Tv → List Tv → Bool
  | [], [] => true
  | x :: xs, y :: ys => Tv.eqb x y && Tv.eqbs xs ys
  | _, _ => false
end
/-- a list in the store as the list that it is -/
def thaw (S : Sto) : Tv → Option Tv
  | .cell n => match S[n]? with
    | some (.lst ts) => some (.lst ts)
    | _ => none
  | t => some t
def eqS0 (S : Sto) (a b : Tv) : Option Bool :=
  match thaw S a, thaw S b with
  | some x, some y => if Tv.dOk 16 x = true ∧ Tv.dOk 16 y = true then some (Tv.eqb x y) else none
  | _, _ => none
/-- two texts are looked at as they are -/
def eqS (S : Sto) (a b : Tv) : Option Bool :=
  match a, b with
  | .str x, .str y => some (x == y)
  | _, _ => eqS0 S a b
def flatT : Tv → Bool
  | .non => true
  | .bl _ => true
  | .int _ => true
  | .str _ => true
  | _ => false
def inL : Option Tv → Option (List Tv) → Option Bool
  | some x, some ys => if Tv.dOk 16 x = true ∧ Tv.dOks 16 ys = true then some (ys.any fun y => Tv.eqb y x) else none
  | _, _ => none
def inS (S : Sto) (a b : Tv) : Option Bool :=
  match b with
  | .str z => match a with
    | .str x => if x.cps.size = 1 then some (decide (x.cps.getD 0 0 ∈ z.cps.toList)) else none
    | _ => none
  | .tup ys => if flatT a = true ∧ ys.all flatT = true then some (ys.any fun y => Tv.eqb y a) else none
  | t => inL (thaw S a) (lstOf S t)
def cmpV (o : Co) (S : Sto) (a b : Tv) : Option Bool :=
  match o with
  | .eq => eqS S a b
  | .ne => (eqS S a b).map (!·)
  | .isin => inS S a b
  | .notin => (inS S a b).map (!·)
  | .lt => match a, b with
    | .int i, .int j => some (decide (i < j))
    | _, _ => none
  | .le => match a, b with
    | .int i, .int j => some (decide (i ≤ j))
    | _, _ => none
  | .gt => match a, b with
    | .int i, .int j => some (decide (j < i))
    | _, _ => none
  | .ge => match a, b with
    | .int i, .int j => some (decide (j ≤ i))
    | _, _ => none
def truth (S : Sto) : Tv → Option Bool
  | .non => some false
  | .bl b => some b
  | .int i => some (i != 0)
  | .tup ts => some (!ts.isEmpty)
  | t => (lstOf S t).map fun ts => !ts.isEmpty
/-- x is c: None, True, False -/
def isCV (c : Option Bool) (x : Tv) : Option Bool := match c with
  | none => match x with
    | .non => some true
    | _ => some false
  | some b => match x with
    | .bl k => some (decide (k = b))
    | _ => none
def intsOf : List Tv → Option (List Int)
  | [] => some []
  | .int i :: r => (intsOf r).map (i :: ·)
  | _ => none
def blsOf : List Tv → Option (List Bool)
  | [] => some []
  | .bl i :: r => (blsOf r).map (i :: ·)
  | _ => none
def mostOf : List Int → Int
  | [] => 0
  | x :: xs => xs.foldl (fun a y => if decide (a < y) = true then y else a) x
def leastOf : List Int → Int
  | [] => 0
  | x :: xs => xs.foldl (fun a y => if decide (y < a) = true then y else a) x
mutual
/-- what repr shows -/
def Tv.shown : Tv → Str
  | .non => "None"
  | .bl b => if b then "True" else "False"
  | .int i => toString i
  | .str x => reprText x
  | .lst ts => listText (Tv.showns ts)
  | .tup ts => tupleText (Tv.showns ts)
  | .dct => "{}"
  | _ => ""
def Tv.showns : List Tv → List Str
  | [] => []
  | t :: r => Tv.shown t :: Tv.showns r
end
mutual
def Tv.rOk : Nat → Tv → Bool
  | _, .non => true
  | _, .bl _ => true
  | _, .int i => decide (i.natAbs.log2 < 1920)
  | _, .str x => x.cps.toList.all fun c => decide (c < 16 ^ 8)
  | _, .dct => true
  | k + 1, .tup ts => Tv.rOks k ts
  | k + 1, .lst ts => Tv.rOks k ts
  | _, _ => false
def Tv.rOks : Nat → List Tv → Bool
  | _, [] => true
  | k, t :: r => Tv.rOk k t && Tv.rOks k r
end
mutual
def Tv.bulk : Tv → Nat
  | .str x => x.length
  | .tup ts => Tv.bulks ts
  | .lst ts => Tv.bulks ts
  | _ => 0
def Tv.bulks : List Tv → Nat
  | [] => 0
  | t :: r => Tv.bulk t + 1 + Tv.bulks r
end
def reprV (S : Sto) (a : Tv) : Option Tv :=
  match thaw S a with
  | some x => if Tv.rOk 16 x = true ∧ Tv.bulk x ≤ 20000 then some (.str (Tv.shown x)) else none
  | none => none
def lenV (S : Sto) : Tv → Option Tv
  | .str x => if x.length ≤ lim then some (.int x.length) else none
  | t => (seqOf S t).map fun ts => .int ts.length
def primV (p : Pr) (S : Sto) (as : List Tv) : Option Tv :=
  match p, as with
  | .len, [a] => lenV S a
  | .tuple, [a] => (seqOf S a).map .tup
  | .int, [.int i] => some (.int i)
  | .int, [.bl b] => some (.int (if b then 1 else 0))
  | .abs, [.int i] => some (.int (if i < 0 then -i else i))
  | .sum, [a] => (seqOf S a).bind fun ts => (intsOf ts).map fun ns => .int ns.sum
  | .max, [a] => (seqOf S a).bind fun ts => match intsOf ts with
    | some (n :: r) => some (.int (mostOf (n :: r)))
    | _ => none
  | .min, [a] => (seqOf S a).bind fun ts => match intsOf ts with
    | some (n :: r) => some (.int (leastOf (n :: r)))
    | _ => none
  | .minD, [a] => (seqOf S a).bind fun ts => match intsOf ts with
    | some (n :: r) => some (.int (leastOf (n :: r)))
    | some [] => some (.int 0)
    | _ => none
  | .max2, [.int i, .int j] => some (.int (if j > i then j else i))
  | .min2, [.int i, .int j] => some (.int (if j < i then j else i))
  | .all, [a] => (lstOf S a).bind fun ts => (blsOf ts).map fun bs => .bl (bs.all id)
  | .any, [a] => (lstOf S a).bind fun ts => (blsOf ts).map fun bs => .bl (bs.any id)
  | .repr, [a] => reprV S a
  | .str, [.int i] => if i.natAbs.log2 < 1920 then some (.str (toString i)) else none
  | _, _ => none
def isiV (k : Kd) (S : Sto) (a : Tv) : Option Bool :=
  match a with
  | .non => some false
  | .bl _ => some (decide (k = .int ∨ k = .bool))
  | .int _ => some (decide (k = .int))
  | .str _ => some (decide (k = .str))
  | .tup _ => some (decide (k = .tuple))
  | .lst _ => some (decide (k = .list))
  | .dct => some false
  | .scr _ => none
  | .ins c _ => some (decide (k = .cls c))
  | .cell n => match S[n]? with
    | some (.lst _) => some (decide (k = .list))
    | _ => none
def ixV (S : Sto) (a i : Tv) : Option Tv :=
  match i with
  | .int j => match a with
    | .str z => if z.length ≤ lim then (L2.atI z.cps.toList j).map fun c => .str ⟨#[c]⟩ else none
    | _ => (seqOf S a).bind fun ts => L2.atI ts j
  | _ => none
/-- a slice's end: a number, or left out -/
def endV : Option Tv → Option (Option Int)
  | none => some none
  | some (.int i) => some (some i)
  | _ => none
def cutL {α : Type} (xs : List α) (lo hi : Option Int) : List α := (xs.drop (HT.sIx xs.length 0 lo)).take (HT.sIx xs.length xs.length hi - HT.sIx xs.length 0 lo)
def slV (S : Sto) (a : Tv) (lo hi : Option Int) : Option Tv :=
  match a with
  | .tup ts => some (.tup (cutL ts lo hi))
  | .scr ts => some (.lst (cutL ts lo hi))
  | t => (lstOf S t).map fun ts => .lst (cutL ts lo hi)
def revV (S : Sto) : Tv → Option Tv
  | t => (lstOf S t).map fun ts => .lst ts.reverse

mutual
/-- no place of the store is named -/
def Tv.noCell : Tv → Bool
  | .tup ts => Tv.noCells ts
  | .lst ts => Tv.noCells ts
  | .scr ts => Tv.noCells ts
  | .ins _ ts => Tv.noCells ts
  | .cell _ => false
  | _ => true
def Tv.noCells : List Tv → Bool
  | [] => true
  | t :: r => Tv.noCell t && Tv.noCells r
end
/-! ### targets -/
mutual
def setTg : Tg → Tv → Env → Option Env
  | .v i, t, env => some (env.set i (some t))
  | .tup ts, t, env => match t with
    | .tup us => setTgs ts us env
    | _ => none
def setTgs : List Tg → List Tv → Env → Option Env
  | [], [], env => some env
  | g :: gs, t :: ts, env => match setTg g t env with
    | some e => setTgs gs ts e
    | none => none
  | _, _, _ => none
end
def wipeE (env : Env) : List Nat → Env
  | [] => env
  | v :: vs => (wipeE env vs).set v none

/-! ### going through -/
/-- the cells that are walked, as they must stay -/
def stays (w : List (Nat × List Tv)) (S : Sto) : Bool := w.all fun p => decide (S[p.1]? = some (.lst p.2))
def srcOf (S : Sto) (t : Tv) : Option (List Tv × List (Nat × List Tv)) :=
  match t with
  | .tup ts => some (ts, [])
  | .lst ts => some (ts, [])
  | .cell n => match S[n]? with
    | some (.lst ts) => some (ts, [(n, ts)])
    | _ => none
  | _ => none
def zipT : List Tv → List Tv → List Tv
  | x :: xs, y :: ys => .tup [x, y] :: zipT xs ys
  | _, _ => []
def enumT : Int → List Tv → List Tv
  | _, [] => []
  | i, x :: xs => .tup [.int i, x] :: enumT (i + 1) xs
def rngT (lo : Int) : Nat → List Tv
  | 0 => []
  | n + 1 => .int lo :: rngT (lo + 1) n
/-- nothing is told of an error here -/
def calmM {α : Type} (m : M α) : M α := fun S => match m S with
  | .ex _ _ _ => .bad
  | r => r
def compL (w : List (Nat × List Tv)) (tg : Tg) (env : Env) (c : Env → M Bool) (elt : Env → M Tv) : List Tv → M (List Tv)
  | [] => fun S => if stays w S then .ok [] S else .bad
  | t :: r => fun S => if stays w S then
      match setTg tg t env with
      | none => .bad
      | some e => bnd (calmM (c e)) (fun k => if k then bnd (calmM (elt e)) fun y => bnd (compL w tg env c elt r) fun ys => ret (y :: ys) else compL w tg env c elt r) S
    else .bad
def forL (w : List (Nat × List Tv)) (tg : Tg) (body : Env → Sto → Sr) : List Tv → Env → Sto → Sr
  | [], env, S => if stays w S then .nx env S else .bad
  | t :: r, env, S => if stays w S then
      match setTg tg t env with
      | none => .bad
      | some e => match body e S with
        | .nx e S => forL w tg body r e S
        | .ct e S => forL w tg body r e S
        | .bk e S => .nx e S
        | .rt t S => .rt t S
        | .ex c fs e S => .ex c fs e S
        | .bad => .bad
    else .bad
def whileL (c : Env → M Bool) (body : Env → Sto → Sr) : Nat → Env → Sto → Sr
  | 0, _, _ => .bad
  | m + 1, env, S => match c env S with
    | .ok true S => match body env S with
      | .nx e S => whileL c body m e S
      | .ct e S => whileL c body m e S
      | .bk e S => .nx e S
      | .rt t S => .rt t S
      | .ex c fs e S => .ex c fs e S
      | .bad => .bad
    | .ok false S => .nx env S
    | .ex c fs S => .ex c fs env S
    | .bad => .bad

/-! ### what the text does -/
def varM (i : Nat) (env : Env) : M Tv := fun S => match env[i]? with
  | some (some t) => .ok t S
  | _ => .bad
structure Vt where
  v : Env → M Tv
  t : Env → M Bool
def truthM (t : Tv) : M Bool := fun S => opt (truth S t) S
def dflt (v : Env → M Tv) : Vt := ⟨v, fun env => bnd (v env) truthM⟩
def boolV (t : Env → M Bool) : Env → M Tv := fun env => bnd (t env) fun b => ret (.bl b)
/-- a list in the store -/
def needL (x : Tv) : M Nat := fun S => match x with
  | .cell n => match S[n]? with
    | some (.lst _) => .ok n S
    | _ => .bad
  | _ => .bad
def popL (x : Tv) : M Tv := fun S => match x with
  | .cell n => match S[n]? with
    | some (.lst ts) => match ts.getLast? with
      | some t => .ok t (S.set n (.lst ts.dropLast))
      | none => .bad
    | _ => .bad
  | _ => .bad
def popAtL (x j : Tv) : M Tv := fun S => match x, j with
  | .cell n, .int k => match S[n]? with
    | some (.lst ts) => if 0 ≤ k ∧ k < 1000000 then
        match ts[k.toNat]? with
        | some t => .ok t (S.set n (.lst (ts.eraseIdx k.toNat)))
        | none => .bad
      else .bad
    | _ => .bad
  | _, _ => .bad
def appL (x y : Tv) : M Tv := fun S => match x with
  | .cell n => match S[n]? with
    | some (.lst ts) => if ts.length < lim then .ok .non (S.set n (.lst (ts ++ [y]))) else .bad
    | _ => .bad
  | _ => .bad
def alloc (o : Ob) : M Tv := fun S => .ok (.cell S.length) (S ++ [o])
mutual
def ev (cf : Nat → List Tv → M Tv) : Ex → Vt
  | .nop => ⟨fun _ => bad, fun _ => ret true⟩
  | .var i => dflt (varM i)
  | .int i => dflt fun _ => ret (.int i)
  | .str s => dflt fun _ => ret (.str s)
  | .bl b => dflt fun _ => ret (.bl b)
  | .non => dflt fun _ => ret .non
  | .gl _ t => dflt fun _ => ret t
  | .bin o a b => dflt fun env => bnd ((ev cf a).v env) fun x => bnd ((ev cf b).v env) fun y S => opt (binV o S x y) S
  | .neg a => dflt fun env => bnd ((ev cf a).v env) fun x => match x with
    | .int i => ret (.int (-i))
    | _ => bad
  | .cmp o a b =>
    let t : Env → M Bool := fun env => bnd ((ev cf a).v env) fun x => bnd ((ev cf b).v env) fun y S => opt (cmpV o S x y) S
    ⟨boolV t, t⟩
  | .chain o p a b c =>
    let t : Env → M Bool := fun env => bnd ((ev cf a).v env) fun x => bnd ((ev cf b).v env) fun y => bnd (fun S => opt (cmpV o S x y) S) fun k =>
      if k then bnd ((ev cf c).v env) fun z S => opt (cmpV p S y z) S else ret false
    ⟨boolV t, t⟩
  | .isC ng a c =>
    let t : Env → M Bool := fun env => bnd ((ev cf a).v env) fun x S => opt ((isCV c x).map fun k => if ng then !k else k) S
    ⟨boolV t, t⟩
  | .bop an es => ⟨evB cf an es, evT cf an es⟩
  | .nt a =>
    let t : Env → M Bool := fun env => bnd ((ev cf a).t env) fun b => ret (!b)
    ⟨fun env => bnd ((ev cf a).v env) fun x => bnd (truthM x) fun b => ret (.bl (!b)), t⟩
  | .ite c a b => ⟨fun env => bnd ((ev cf c).t env) fun k => if k then (ev cf a).v env else (ev cf b).v env,
      fun env => bnd ((ev cf c).t env) fun k => if k then (ev cf a).t env else (ev cf b).t env⟩
  | .tup es => dflt fun env => bnd (evs cf es env) fun xs => if xs.length ≤ lim then ret (.tup xs) else bad
  | .fz l => dflt fun env => bnd (evL cf l env) fun xs => ret (.lst xs)
  | .mu l => dflt fun env => bnd (evL cf l env) fun xs => alloc (.lst xs)
  | .call f es => dflt fun env => bnd (evs cf es env) fun xs => cf f xs
  | .prim p es => dflt fun env => bnd (evs cf es env) fun xs S => opt (primV p S xs) S
  | .isi a k =>
    let t : Env → M Bool := fun env => bnd ((ev cf a).v env) fun x S => opt (isiV k S x) S
    ⟨boolV t, t⟩
  | .ix a i => dflt fun env => bnd ((ev cf a).v env) fun x => bnd ((ev cf i).v env) fun j S => opt (ixV S x j) S
  | .sl a lo hi => dflt fun env => bnd ((ev cf a).v env) fun x => bnd (evEnd lo ((ev cf lo).v env)) fun l => bnd (evEnd hi ((ev cf hi).v env)) fun h S => opt (slV S x l h) S
  | .rev a => dflt fun env => bnd ((ev cf a).v env) fun x S => opt (revV S x) S
  | .pop a => dflt fun env => bnd ((ev cf a).v env) popL
  | .popAt a i => dflt fun env => bnd ((ev cf a).v env) fun x => bnd (needL x) fun _ => bnd ((ev cf i).v env) fun j => popAtL x j
  | .app a e => dflt fun env => bnd ((ev cf a).v env) fun x => bnd (needL x) fun _ => bnd ((ev cf e).v env) fun y => appL x y
def evEnd (e : Ex) (m : M Tv) : M (Option Int) := match e with
  | .nop => ret none
  | _ => bnd m fun x => match x with
    | .int i => ret (some i)
    | _ => bad
def evs (cf : Nat → List Tv → M Tv) : List Ex → Env → M (List Tv)
  | [], _ => ret []
  | e :: r, env => bnd ((ev cf e).v env) fun x => bnd (evs cf r env) fun xs => ret (x :: xs)
def evB (cf : Nat → List Tv → M Tv) (an : Bool) : List Ex → Env → M Tv
  | [], _ => bad
  | e :: r, env => match r with
    | [] => (ev cf e).v env
    | _ :: _ => bnd ((ev cf e).v env) fun x => bnd (truthM x) fun k => if k = an then evB cf an r env else ret x
def evT (cf : Nat → List Tv → M Tv) (an : Bool) : List Ex → Env → M Bool
  | [], _ => ret an
  | e :: r, env => bnd ((ev cf e).t env) fun k => if k = an then evT cf an r env else ret k
def evL (cf : Nat → List Tv → M Tv) : Lx → Env → M (List Tv)
  | .disp es, env => bnd (evs cf es env) fun xs => if xs.length ≤ lim then ret xs else bad
  | .comp own elt tg it c, env => bnd (evI cf it env) fun q => if q.1.length ≤ lim then compL q.2 tg (wipeE env own) (ev cf c).t (ev cf elt).v q.1 else bad
  | .ofSeq a, env => bnd ((ev cf a).v env) fun x S => opt (seqOf S x) S
def evI (cf : Nat → List Tv → M Tv) : Ix → Env → M (List Tv × List (Nat × List Tv))
  | .seq a, env => bnd ((ev cf a).v env) fun x S => opt (srcOf S x) S
  | .rng a, env => bnd ((ev cf a).v env) fun x => match x with
    | .int i => if -1000000 < i ∧ i < 1000000 then ret (rngT 0 i.toNat, []) else bad
    | _ => bad
  | .rng2 a b, env => bnd ((ev cf a).v env) fun x => bnd ((ev cf b).v env) fun y => match x, y with
    | .int i, .int j => if (-1000000 < i ∧ i < 1000000) ∧ -1000000 < j ∧ j < 1000000 then ret (rngT i (j - i).toNat, []) else bad
    | _, _ => bad
  | .zip a b, env => bnd ((ev cf a).v env) fun x => bnd ((ev cf b).v env) fun y S => match srcOf S x, srcOf S y with
    | some (xs, u), some (ys, v) => .ok (zipT xs ys, u ++ v) S
    | _, _ => .bad
  | .enum a, env => bnd ((ev cf a).v env) fun x S => match srcOf S x with
    | some (xs, u) => .ok (enumT 0 xs, u) S
    | none => .bad
end
def srOf (r : Rs Tv) (env : Env) (f : Tv → Sto → Sr) : Sr := match r with
  | .ok t S => f t S
  | .ex c fs S => .ex c fs env S
  | .bad => .bad
def setAt (n : Tv) (i : Tv) (t : Tv) (S : Sto) : Option Sto := match n, i with
  | .cell n, .int k => match S[n]? with
    | some (.lst ts) => (L2.ixN ts.length k).map fun j => S.set n (.lst (ts.set j t))
    | _ => none
  | _, _ => none
mutual
def ex (cf : Nat → List Tv → M Tv) (m : Nat) : Sx → Env → Sto → Sr
  | .asg tg e, env, S => srOf ((ev cf e).v env S) env fun t S => match setTg tg t env with
    | some e => .nx e S
    | none => .bad
  | .drop e, env, S => srOf ((ev cf e).v env S) env fun _ S => .nx env S
  | .setIx a i e, env, S => srOf ((ev cf e).v env S) env fun t S => srOf ((ev cf a).v env S) env fun x S => srOf ((ev cf i).v env S) env fun j S =>
    match setAt x j t S with
    | some S' => .nx env S'
    | none => .bad
  | .ifS c a b, env, S => match (ev cf c).t env S with
    | .ok k S => if k then exs cf m a env S else exs cf m b env S
    | .ex c fs S => .ex c fs env S
    | .bad => .bad
  | .whileS c a, env, S => whileL (ev cf c).t (exs cf m a) m env S
  | .forS tg it a, env, S => match evI cf it env S with
    | .ok q S => forL q.2 tg (exs cf m a) q.1 env S
    | .ex c fs S => .ex c fs env S
    | .bad => .bad
  | .ret e, env, S => srOf ((ev cf e).v env S) env fun t S => .rt t S
  | .brk, env, S => .bk env S
  | .cont, env, S => .ct env S
  | .pass, env, S => .nx env S
def exs (cf : Nat → List Tv → M Tv) (m : Nat) : List Sx → Env → Sto → Sr
  | [], env, S => .nx env S
  | s :: r, env, S => match ex cf m s env S with
    | .nx env S => exs cf m r env S
    | x => x
end
/-- a def: how many names, its parameters, its body -/
structure Df where
  n : Nat
  k : Nat
  body : List Sx
/-- fuel of a while -/
def Fu : Nat := 1000000000
def runD (cf : Nat → List Tv → M Tv) (d : Df) (as : List Tv) : M Tv := fun S =>
  if as.length = d.k then
    match exs cf Fu d.body (as.map some ++ List.replicate (d.n - d.k) none) S with
    | .rt t S' => if S'.take S.length = S ∧ t.noCell = true then .ok t S else .ok t S'
    | .nx _ S' => .ok .non S'
    | .ex c fs _ S' => .ex c fs S'
    | _ => .bad
  else .bad
end Mp
namespace Mp
open PySem L2

/-- what stands around: the program, the written part, the module's names, the classes (name, fields) -/
structure Wd where
  P : Program
  w : World
  K : PySem.W.Frag
  mg : Str → Option Value
  base : Heap
  cls : Nat → Str × List Str

def KT (K : PySem.W.Frag) (a : Addr) (xs : List V) : Prop := ∃ (o : Obj) (its : Array Value) (n : Nat), K.lookup a = some o ∧ o.cls = .type "tuple" ∧ o.data = .seq its n ∧ its.size ≤ sizeLine ∧ Vals xs its.toList
def FzT (K : PySem.W.Frag) (ν : List Addr) (H : Hp) (a : Addr) (xs : List V) : Prop := (a ∉ ν ∧ Rd H a (.tup xs)) ∨ KT K a xs
/-- the script: walled off, or the written part's own -/
def FzS (K : PySem.W.Frag) (ν : List Addr) (H : Hp) (a : Addr) (xs : List V) : Prop := (a ∉ ν ∧ ∃ o, H a = some (.frz o (.lst xs))) ∨
  ∃ (o : Obj) (its : Array Value) (n : Nat), K.lookup a = some o ∧ o.cls = .type "list" ∧ o.dict = none ∧ o.data = .seq its n ∧ its.size ≤ sizeLine ∧ Vals xs its.toList
def FzL (ν : List Addr) (H : Hp) (a : Addr) (xs : List V) : Prop := a ∉ ν ∧ H a = some (.lst xs)
variable {G : Wd} {ν μ ν' μ' ν1 μ1 ν2 μ2 : List Addr} {H H' H1 H2 : Hp} {S S' S1 S2 : Sto}
theorem FzT.sq {K : PySem.W.Frag} {a : Addr} {xs : List V} (h : FzT K ν H a xs) : SqT K H a xs := by
  rcases h with ⟨_, h⟩ | h
  · exact .inl h
  · exact .inr h
theorem FzL.sq {K : PySem.W.Frag} {a : Addr} {xs : List V} (h : FzL ν H a xs) : SqL K H a xs := .inl (.inl h.2)

mutual
/-- v stands for the tree -/
def Dn (G : Wd) (ν μ : List Addr) (H : Hp) : Tv → V → Prop
  | .non, v => v = .non
  | .bl b, v => v = .bl b
  | .int i, v => v = .int i
  | .str s, v => v = .str s
  | .tup ts, v => ∃ a vs, v = .ref a ∧ FzT G.K ν H a vs ∧ Dns G ν μ H ts vs
  | .lst ts, v => ∃ a vs, v = .ref a ∧ FzL ν H a vs ∧ Dns G ν μ H ts vs
  | .dct, v => ∃ a, v = .ref a ∧ a ∉ ν ∧ H a = some (.dK [])
  | .scr ts, v => ∃ a vs, v = .ref a ∧ FzS G.K ν H a vs ∧ Dns G ν μ H ts vs
  | .ins c fs, v => ∃ a dx C vs, v = .ref a ∧ a ∉ ν ∧ H a = some (.ins C dx vs) ∧ G.mg (G.cls c).1 = some (.ref C) ∧ vs.map (·.1) = (G.cls c).2 ∧ Dns G ν μ H fs (vs.map (·.2))
  | .cell n, v => ∃ a, v = .ref a ∧ μ[n]? = some a
def Dns (G : Wd) (ν μ : List Addr) (H : Hp) : List Tv → List V → Prop
  | [], vs => vs = []
  | t :: r, vs => ∃ v vr, vs = v :: vr ∧ Dn G ν μ H t v ∧ Dns G ν μ H r vr
end
/-- what stood still: all that is tracked but the places ν -/
structure Kp (ν : List Addr) (H : Hp) (ν' : List Addr) (H' : Hp) : Prop where
  sub : ∀ a ∈ ν, a ∈ ν'
  new : ∀ a ∈ ν', a ∈ ν ∨ H a = none
  keep : ∀ a o, a ∉ ν → H a = some o → H' a = some o
theorem Kp.refl : Kp ν H ν H := ⟨fun _ h => h, fun _ h => .inl h, fun _ _ _ h => h⟩
theorem Kp.out (k : Kp ν H ν' H') {a : Addr} {o : HO} (h : a ∉ ν) (e : H a = some o) : a ∉ ν' := fun z => by
  rcases k.new a z with q | q
  · exact h q
  · rw [e] at q; cases q
theorem Kp.trans (k : Kp ν H ν1 H1) (l : Kp ν1 H1 ν2 H2) : Kp ν H ν2 H2 :=
  { sub := fun a h => l.sub a (k.sub a h)
    new := fun a h => by
      rcases l.new a h with q | q
      · exact k.new a q
      · by_cases hn : a ∈ ν
        · exact .inl hn
        · refine .inr ?_
          cases e : H a with
          | none => rfl
          | some o => rw [k.keep a o hn e] at q; cases q
    keep := fun a o h e => l.keep a o (k.out h e) (k.keep a o h e) }
/-- a new object -/
theorem Kp.new1 {p : Addr} {o : HO} (h : H p = none) : Kp ν H ν (upd H p o) :=
  ⟨fun _ h => h, fun _ h => .inl h, fun a u _ e => by rw [upd_ne (ne_of_none e h)]; exact e⟩
/-- a place is written -/
theorem Kp.write {p : Addr} {o : HO} (h : p ∈ ν) : Kp ν H ν (upd H p o) :=
  ⟨fun _ h => h, fun _ h => .inl h, fun a u n e => by rw [upd_ne (fun z => n (by rw [z]; exact h))]; exact e⟩
/-- a new place -/
theorem Kp.place {p : Addr} {o : HO} (h : H p = none) : Kp ν H (p :: ν) (upd H p o) :=
  ⟨fun _ h => List.mem_cons_of_mem _ h, fun a q => by
    rcases List.mem_cons.mp q with z | z
    · rw [z]; exact .inr h
    · exact .inl z, fun a u n e => by rw [upd_ne (ne_of_none e h)]; exact e⟩
theorem Rd.kp {a : Addr} {u : HO} (k : Kp ν H ν' H') (n : a ∉ ν) (h : Rd H a u) : a ∉ ν' ∧ Rd H' a u := by
  rcases h with h | ⟨o, h⟩
  · exact ⟨k.out n h, .inl (k.keep a _ n h)⟩
  · exact ⟨k.out n h, .inr ⟨o, k.keep a _ n h⟩⟩
theorem FzT.kp {K : PySem.W.Frag} {a : Addr} {xs : List V} (k : Kp ν H ν' H') (h : FzT K ν H a xs) : FzT K ν' H' a xs := by
  rcases h with ⟨n, h⟩ | h
  · exact .inl (Rd.kp k n h)
  · exact .inr h
theorem FzS.kp {K : PySem.W.Frag} {a : Addr} {xs : List V} (k : Kp ν H ν' H') (h : FzS K ν H a xs) : FzS K ν' H' a xs := by
  rcases h with ⟨n, o, h⟩ | h
  · exact .inl ⟨k.out n h, o, k.keep a _ n h⟩
  · exact .inr h
theorem FzS.sq {K : PySem.W.Frag} {a : Addr} {xs : List V} (h : FzS K ν H a xs) : SqL K H a xs := by
  rcases h with ⟨n, o, h⟩ | h
  · exact .inl (.inr ⟨o, h⟩)
  · exact .inr h
theorem FzL.kp {a : Addr} {xs : List V} (k : Kp ν H ν' H') (h : FzL ν H a xs) : FzL ν' H' a xs := ⟨k.out h.1 h.2, k.keep _ _ h.1 h.2⟩
mutual
theorem Dn.kp (k : Kp ν H ν' H') (p : μ <+: μ') : ∀ (t : Tv) (v : V), Dn G ν μ H t v → Dn G ν' μ' H' t v
  | .non, _, h => h
  | .bl _, _, h => h
  | .int _, _, h => h
  | .str _, _, h => h
  | .tup ts, v, h => by
    simp only [Dn] at h ⊢
    obtain ⟨a, vs, e, f, d⟩ := h
    exact ⟨a, vs, e, f.kp k, Dns.kp k p ts vs d⟩
  | .lst ts, v, h => by
    simp only [Dn] at h ⊢
    obtain ⟨a, vs, e, f, d⟩ := h
    exact ⟨a, vs, e, f.kp k, Dns.kp k p ts vs d⟩
  | .dct, v, h => by
    simp only [Dn] at h ⊢
    obtain ⟨a, e, n, q⟩ := h
    exact ⟨a, e, k.out n q, k.keep _ _ n q⟩
  | .scr ts, v, h => by
    simp only [Dn] at h ⊢
    obtain ⟨a, vs, e, f, d⟩ := h
    exact ⟨a, vs, e, f.kp k, Dns.kp k p ts vs d⟩
  | .ins c fs, v, h => by
    simp only [Dn] at h ⊢
    obtain ⟨a, dx, C, vs, e, n, q, g, m, d⟩ := h
    exact ⟨a, dx, C, vs, e, k.out n q, k.keep _ _ n q, g, m, Dns.kp k p fs _ d⟩
  | .cell n, v, h => by
    simp only [Dn] at h ⊢
    obtain ⟨a, e, q⟩ := h
    obtain ⟨r, rfl⟩ := p
    exact ⟨a, e, by rw [List.getElem?_append_left (List.getElem?_eq_some_iff.mp q).1]; exact q⟩
theorem Dns.kp (k : Kp ν H ν' H') (p : μ <+: μ') : ∀ (ts : List Tv) (vs : List V), Dns G ν μ H ts vs → Dns G ν' μ' H' ts vs
  | [], _, h => h
  | t :: r, vs, h => by
    simp only [Dns] at h ⊢
    obtain ⟨v, vr, e, d1, d2⟩ := h
    exact ⟨v, vr, e, Dn.kp k p t v d1, Dns.kp k p r vr d2⟩
end
mutual
/-- fewer places -/
theorem Dn.less (s : ∀ a ∈ ν', a ∈ ν) : ∀ (t : Tv) (v : V), Dn G ν μ H t v → Dn G ν' μ H t v
  | .non, _, h => h
  | .bl _, _, h => h
  | .int _, _, h => h
  | .str _, _, h => h
  | .tup ts, v, h => by
    simp only [Dn] at h ⊢
    obtain ⟨a, vs, e, f, d⟩ := h
    refine ⟨a, vs, e, ?_, Dns.less s ts vs d⟩
    rcases f with ⟨n, f⟩ | f
    · exact .inl ⟨fun z => n (s _ z), f⟩
    · exact .inr f
  | .lst ts, v, h => by
    simp only [Dn] at h ⊢
    obtain ⟨a, vs, e, f, d⟩ := h
    exact ⟨a, vs, e, ⟨fun z => f.1 (s _ z), f.2⟩, Dns.less s ts vs d⟩
  | .dct, v, h => by
    simp only [Dn] at h ⊢
    obtain ⟨a, e, n, q⟩ := h
    exact ⟨a, e, fun z => n (s _ z), q⟩
  | .scr ts, v, h => by
    simp only [Dn] at h ⊢
    obtain ⟨a, vs, e, f, d⟩ := h
    refine ⟨a, vs, e, ?_, Dns.less s ts vs d⟩
    rcases f with ⟨n, o, f⟩ | f
    · exact .inl ⟨fun z => n (s _ z), o, f⟩
    · exact .inr f
  | .ins c fs, v, h => by
    simp only [Dn] at h ⊢
    obtain ⟨a, dx, C, vs, e, n, q, g, m, d⟩ := h
    exact ⟨a, dx, C, vs, e, fun z => n (s _ z), q, g, m, Dns.less s fs _ d⟩
  | .cell n, v, h => h
theorem Dns.less (s : ∀ a ∈ ν', a ∈ ν) : ∀ (ts : List Tv) (vs : List V), Dns G ν μ H ts vs → Dns G ν' μ H ts vs
  | [], _, h => h
  | t :: r, vs, h => by
    simp only [Dns] at h ⊢
    obtain ⟨v, vr, e, d1, d2⟩ := h
    exact ⟨v, vr, e, Dn.less s t v d1, Dns.less s r vr d2⟩
end
mutual
/-- no cell in it: the places' list may shrink -/
theorem Dn.pure : ∀ (t : Tv) (v : V), t.noCell = true → Dn G ν μ H t v → Dn G ν μ' H t v
  | .non, _, _, h => h
  | .bl _, _, _, h => h
  | .int _, _, _, h => h
  | .str _, _, _, h => h
  | .tup ts, v, c, h => by
    simp only [Dn] at h ⊢
    obtain ⟨a, vs, e, f, d⟩ := h
    exact ⟨a, vs, e, f, Dns.pure ts vs (by simpa [Tv.noCell] using c) d⟩
  | .lst ts, v, c, h => by
    simp only [Dn] at h ⊢
    obtain ⟨a, vs, e, f, d⟩ := h
    exact ⟨a, vs, e, f, Dns.pure ts vs (by simpa [Tv.noCell] using c) d⟩
  | .dct, _, _, h => h
  | .scr ts, v, c, h => by
    simp only [Dn] at h ⊢
    obtain ⟨a, vs, e, f, d⟩ := h
    exact ⟨a, vs, e, f, Dns.pure ts vs (by simpa [Tv.noCell] using c) d⟩
  | .ins c' fs, v, c, h => by
    simp only [Dn] at h ⊢
    obtain ⟨a, dx, C, vs, e, n, q, g, m, d⟩ := h
    exact ⟨a, dx, C, vs, e, n, q, g, m, Dns.pure fs _ (by simpa [Tv.noCell] using c) d⟩
  | .cell n, v, c, h => by simp [Tv.noCell] at c
theorem Dns.pure : ∀ (ts : List Tv) (vs : List V), Tv.noCells ts = true → Dns G ν μ H ts vs → Dns G ν μ' H ts vs
  | [], _, _, h => h
  | t :: r, vs, c, h => by
    simp only [Dns] at h ⊢
    have c' : t.noCell = true ∧ Tv.noCells r = true := by simpa [Tv.noCells] using c
    obtain ⟨v, vr, e, d1, d2⟩ := h
    exact ⟨v, vr, e, Dn.pure t v c'.1 d1, Dns.pure r vr c'.2 d2⟩
end
theorem Dns.length : ∀ {ts : List Tv} {vs : List V}, Dns G ν μ H ts vs → ts.length = vs.length
  | [], _, h => by simp only [Dns] at h; rw [h] <;> rfl
  | t :: r, vs, h => by
    simp only [Dns] at h
    obtain ⟨v, vr, e, _, d⟩ := h
    rw [e, List.length_cons, List.length_cons, Dns.length d]
theorem Dns.get : ∀ {ts : List Tv} {vs : List V} {i : Nat} {t : Tv}, Dns G ν μ H ts vs → ts[i]? = some t → ∃ v, vs[i]? = some v ∧ Dn G ν μ H t v
  | [], _, _, _, _, e => by simp at e
  | t :: r, vs, 0, u, h, e => by
    simp only [Dns] at h
    obtain ⟨v, vr, q, d, _⟩ := h
    simp at e
    subst e q
    exact ⟨v, rfl, d⟩
  | t :: r, vs, i + 1, u, h, e => by
    simp only [Dns] at h
    obtain ⟨v, vr, q, _, d⟩ := h
    subst q
    obtain ⟨w, e1, e2⟩ := Dns.get (i := i) d (by simpa using e)
    exact ⟨w, by simpa using e1, e2⟩
theorem Dns.append : ∀ {ts us : List Tv} {vs ws : List V}, Dns G ν μ H ts vs → Dns G ν μ H us ws → Dns G ν μ H (ts ++ us) (vs ++ ws)
  | [], _, _, _, h, d => by simp only [Dns] at h; rw [h]; exact d
  | t :: r, us, vs, ws, h, d => by
    simp only [Dns] at h
    obtain ⟨v, vr, q, d1, d2⟩ := h
    subst q
    show Dns G ν μ H (t :: (r ++ us)) (v :: (vr ++ ws))
    simp only [Dns]
    exact ⟨v, vr ++ ws, rfl, d1, Dns.append d2 d⟩
theorem Dns.take : ∀ {ts : List Tv} {vs : List V} (n : Nat), Dns G ν μ H ts vs → Dns G ν μ H (ts.take n) (vs.take n)
  | [], _, n, h => by simp only [Dns] at h; rw [h]; simp [Dns]
  | t :: r, vs, 0, h => by simp [Dns]
  | t :: r, vs, n + 1, h => by
    simp only [Dns] at h
    obtain ⟨v, vr, q, d1, d2⟩ := h
    subst q
    simp only [List.take_succ_cons, Dns]
    exact ⟨v, vr.take n, rfl, d1, Dns.take n d2⟩
theorem Dns.drop : ∀ {ts : List Tv} {vs : List V} (n : Nat), Dns G ν μ H ts vs → Dns G ν μ H (ts.drop n) (vs.drop n)
  | ts, vs, 0, h => h
  | [], _, n + 1, h => by simp only [Dns] at h; rw [h]; simp [Dns]
  | t :: r, vs, n + 1, h => by
    simp only [Dns] at h
    obtain ⟨v, vr, q, d1, d2⟩ := h
    subst q
    exact Dns.drop n d2
theorem Dns.set : ∀ {ts : List Tv} {vs : List V} (n : Nat) {t : Tv} {v : V}, Dns G ν μ H ts vs → Dn G ν μ H t v → Dns G ν μ H (ts.set n t) (vs.set n v)
  | [], _, n, _, _, h, _ => by simp only [Dns] at h; rw [h]; simp [Dns]
  | t :: r, vs, 0, u, w, h, d => by
    simp only [Dns] at h
    obtain ⟨v, vr, q, d1, d2⟩ := h
    subst q
    simp only [List.set_cons_zero, Dns]
    exact ⟨w, vr, rfl, d, d2⟩
  | t :: r, vs, n + 1, u, w, h, d => by
    simp only [Dns] at h
    obtain ⟨v, vr, q, d1, d2⟩ := h
    subst q
    simp only [List.set_cons_succ, Dns]
    exact ⟨v, vr.set n w, rfl, d1, Dns.set n d2 d⟩
theorem Dns.eraseIdx : ∀ {ts : List Tv} {vs : List V} (n : Nat), Dns G ν μ H ts vs → Dns G ν μ H (ts.eraseIdx n) (vs.eraseIdx n)
  | [], _, n, h => by simp only [Dns] at h; rw [h]; simp [Dns]
  | t :: r, vs, 0, h => by
    simp only [Dns] at h
    obtain ⟨v, vr, q, d1, d2⟩ := h
    subst q
    exact d2
  | t :: r, vs, n + 1, h => by
    simp only [Dns] at h
    obtain ⟨v, vr, q, d1, d2⟩ := h
    subst q
    simp only [List.eraseIdx_cons_succ, Dns]
    exact ⟨v, vr.eraseIdx n, rfl, d1, Dns.eraseIdx n d2⟩
theorem Dns.reverse : ∀ {ts : List Tv} {vs : List V}, Dns G ν μ H ts vs → Dns G ν μ H ts.reverse vs.reverse
  | [], _, h => by simp only [Dns] at h; rw [h]; simp [Dns]
  | t :: r, vs, h => by
    simp only [Dns] at h
    obtain ⟨v, vr, q, d1, d2⟩ := h
    subst q
    rw [List.reverse_cons, List.reverse_cons]
    refine Dns.append (Dns.reverse d2) ?_
    simp only [Dns]
    exact ⟨v, [], rfl, d1, rfl⟩
theorem Dns.one {t : Tv} {v : V} (d : Dn G ν μ H t v) : Dns G ν μ H [t] [v] := by
  simp only [Dns]
  exact ⟨v, [], rfl, d, rfl⟩
theorem Dns.two {t u : Tv} {v w : V} (d : Dn G ν μ H t v) (e : Dn G ν μ H u w) : Dns G ν μ H [t, u] [v, w] := by
  simp only [Dns]
  exact ⟨v, [w], rfl, d, w, [], rfl, e, rfl⟩
theorem Dns.un1 {t : Tv} {vs : List V} (d : Dns G ν μ H [t] vs) : ∃ v, vs = [v] ∧ Dn G ν μ H t v := by
  simp only [Dns] at d
  obtain ⟨v, vr, e, d, q⟩ := d
  subst q
  exact ⟨v, e, d⟩
theorem Dns.un2 {t u : Tv} {vs : List V} (d : Dns G ν μ H [t, u] vs) : ∃ v w, vs = [v, w] ∧ Dn G ν μ H t v ∧ Dn G ν μ H u w := by
  simp only [Dns] at d
  obtain ⟨v, vr, e, d, w, vr', e', d', q⟩ := d
  subst q e'
  exact ⟨v, w, e, d, d'⟩

/-- what stands at a place -/
def ObR (G : Wd) (ν μ : List Addr) (H : Hp) (a : Addr) : Ob → Prop
  | .lst ts => ∃ vs, H a = some (.lst vs) ∧ Dns G ν μ H ts vs
  | .ins c fs => ∃ dx C vs, H a = some (.ins C dx vs) ∧ G.mg (G.cls c).1 = some (.ref C) ∧ vs.map (·.1) = (G.cls c).2.take fs.length ∧ Dns G ν μ H fs (vs.map (·.2))
  | .dct kvs => ∃ ks, H a = some (.dK ks) ∧ Dns G ν μ H (kvs.map (·.1)) (ks.map fun p => kV p.1) ∧ Dns G ν μ H (kvs.map (·.2)) (ks.map (·.2))
theorem ObR.kp (k : Kp ν H ν' H') (p : μ <+: μ') {a : Addr} {o : Ob} (h : ObR G ν μ H a o) (e : H' a = H a) : ObR G ν' μ' H' a o := by
  cases o with
  | lst ts =>
    obtain ⟨vs, q, d⟩ := h
    exact ⟨vs, by rw [e]; exact q, Dns.kp k p _ _ d⟩
  | ins c fs =>
    obtain ⟨dx, C, vs, q, g, m, d⟩ := h
    exact ⟨dx, C, vs, by rw [e]; exact q, g, m, Dns.kp k p _ _ d⟩
  | dct kvs =>
    obtain ⟨ks, q, d1, d2⟩ := h
    exact ⟨ks, by rw [e]; exact q, Dns.kp k p _ _ d1, Dns.kp k p _ _ d2⟩
theorem ObR.less (s : ∀ a ∈ ν', a ∈ ν) {a : Addr} {o : Ob} (h : ObR G ν μ H a o) : ObR G ν' μ H a o := by
  cases o with
  | lst ts =>
    obtain ⟨vs, q, d⟩ := h
    exact ⟨vs, q, Dns.less s _ _ d⟩
  | ins c fs =>
    obtain ⟨dx, C, vs, q, g, m, d⟩ := h
    exact ⟨dx, C, vs, q, g, m, Dns.less s _ _ d⟩
  | dct kvs =>
    obtain ⟨ks, q, d1, d2⟩ := h
    exact ⟨ks, q, Dns.less s _ _ d1, Dns.less s _ _ d2⟩
theorem ObR.some {a : Addr} {o : Ob} (h : ObR G ν μ H a o) : ∃ u, H a = some u := by
  cases o with
  | lst ts => obtain ⟨vs, q, d⟩ := h; exact ⟨_, q⟩
  | ins c fs => obtain ⟨dx, C, vs, q, _⟩ := h; exact ⟨_, q⟩
  | dct kvs => obtain ⟨ks, q, _⟩ := h; exact ⟨_, q⟩
/-- the store stands in the heap: place n at μ n; ν: these and whatever else may be written meanwhile -/
structure StR (G : Wd) (ν μ : List Addr) (S : Sto) (H : Hp) : Prop where
  len : μ.length = S.length
  nd : μ.Nodup
  sub : ∀ a ∈ μ, a ∈ ν
  trk : ∀ a ∈ ν, ∃ o, H a = some o
  ob : ∀ (n : Nat) (o : Ob), S[n]? = some o → ∃ a, μ[n]? = some a ∧ ObR G ν μ H a o
theorem StR.at {n : Nat} {a : Addr} {o : Ob} (s : StR G ν μ S H) (e : S[n]? = some o) (h : μ[n]? = some a) : ObR G ν μ H a o := by
  obtain ⟨b, e1, r⟩ := s.ob n o e
  rw [h] at e1
  cases e1
  exact r
theorem StR.fresh {p : Addr} (s : StR G ν μ S H) (h : H p = none) : p ∉ ν := fun z => by
  obtain ⟨o, e⟩ := s.trk p z
  rw [h] at e; cases e
/-- a new thing that is no place -/
theorem StR.new1 {p : Addr} {o : HO} (s : StR G ν μ S H) (h : H p = none) : StR G ν μ S (upd H p o) := by
  have k : Kp ν H ν (upd H p o) := .new1 h
  refine ⟨s.len, s.nd, s.sub, fun a ha => ?_, fun n u e => ?_⟩
  · obtain ⟨o', e⟩ := s.trk a ha
    exact ⟨o', by rw [upd_ne (ne_of_none e h)]; exact e⟩
  · obtain ⟨a, e1, r⟩ := s.ob n u e
    obtain ⟨z, ez⟩ := r.some
    exact ⟨a, e1, r.kp k (List.prefix_refl _) (upd_ne (ne_of_none ez h))⟩
/-- the place n is written -/
theorem StR.write {n : Nat} {p : Addr} {o : HO} {u : Ob} (s : StR G ν μ S H) (hp : μ[n]? = some p) (new : ObR G ν μ (upd H p o) p u) : StR G ν μ (S.set n u) (upd H p o) := by
  have hpn : p ∈ ν := s.sub p (List.mem_of_getElem? hp)
  have k : Kp ν H ν (upd H p o) := .write hpn
  refine ⟨by rw [List.length_set]; exact s.len, s.nd, s.sub, fun a ha => ?_, fun m v e => ?_⟩
  · by_cases z : a = p
    · rw [z]; exact ⟨o, upd_same⟩
    · obtain ⟨o', e⟩ := s.trk a ha
      exact ⟨o', by rw [upd_ne z]; exact e⟩
  · by_cases z : n = m
    · subst z
      have hl : n < S.length := by rw [← s.len]; exact (List.getElem?_eq_some_iff.mp hp).1
      rw [List.getElem?_set_self hl] at e
      cases e
      exact ⟨p, hp, new⟩
    · rw [List.getElem?_set_ne z] at e
      obtain ⟨a, e1, r⟩ := s.ob m v e
      have ne : a ≠ p := fun q => by
        subst q
        obtain ⟨h1, z1⟩ := List.getElem?_eq_some_iff.mp hp
        obtain ⟨h2, z2⟩ := List.getElem?_eq_some_iff.mp e1
        exact z ((List.getElem_inj s.nd).mp (z1.trans z2.symm))
      exact ⟨a, e1, r.kp k (List.prefix_refl _) (upd_ne ne)⟩
/-- a new place in the store -/
theorem StR.place {p : Addr} {o : HO} {u : Ob} (s : StR G ν μ S H) (h : H p = none) (new : ObR G (p :: ν) (μ ++ [p]) (upd H p o) p u) : StR G (p :: ν) (μ ++ [p]) (S ++ [u]) (upd H p o) := by
  have k : Kp ν H (p :: ν) (upd H p o) := .place h
  have hpn : p ∉ ν := s.fresh h
  refine ⟨by rw [List.length_append, List.length_append, s.len]; rfl, ?_, fun a ha => ?_, fun a ha => ?_, fun m v e => ?_⟩
  · rw [List.nodup_append]
    exact ⟨s.nd, List.nodup_cons.mpr ⟨by simp, List.nodup_nil⟩, fun a ha b hb => by
      rw [List.mem_singleton.mp hb]
      exact fun z => hpn (by rw [← z]; exact s.sub a ha)⟩
  · rcases List.mem_append.mp ha with q | q
    · exact List.mem_cons_of_mem _ (s.sub a q)
    · rw [List.mem_singleton.mp q]; exact List.mem_cons_self
  · rcases List.mem_cons.mp ha with q | q
    · rw [q]; exact ⟨o, upd_same⟩
    · obtain ⟨o', e⟩ := s.trk a q
      exact ⟨o', by rw [upd_ne (ne_of_none e h)]; exact e⟩
  · by_cases hm : m < S.length
    · rw [List.getElem?_append_left hm] at e
      obtain ⟨a, e1, r⟩ := s.ob m v e
      obtain ⟨z, ez⟩ := r.some
      exact ⟨a, by rw [List.getElem?_append_left (by rw [s.len]; exact hm)]; exact e1, r.kp k (List.prefix_append _ _) (upd_ne (ne_of_none ez h))⟩
    · have em : m = S.length := by
        have := (List.getElem?_eq_some_iff.mp e).1
        rw [List.length_append] at this
        have : m < S.length + 1 := this
        omega
      subst em
      rw [List.getElem?_append_right (Nat.le_refl _), Nat.sub_self] at e
      cases e
      exact ⟨p, by rw [List.getElem?_append_right (by rw [s.len]; exact Nat.le_refl _), s.len, Nat.sub_self]; rfl, new⟩
/-- behind a piece of work -/
structure Af (G : Wd) (ν μ : List Addr) (H : Hp) (ν' μ' : List Addr) (S' : Sto) (H' : Hp) : Prop where
  kp : Kp ν H ν' H'
  pre : μ <+: μ'
  st : StR G ν' μ' S' H'
  nm : ∀ a ∈ μ', a ∈ μ ∨ H a = none
  lk : ∀ a o, a ∉ μ → H a = some o → H' a = some o
theorem Af.refl (s : StR G ν μ S H) : Af G ν μ H ν μ S H := ⟨.refl, List.prefix_refl _, s, fun _ h => .inl h, fun _ _ _ h => h⟩
theorem Af.trans {S1 S2 : Sto} (a : Af G ν μ H ν1 μ1 S1 H1) (b : Af G ν1 μ1 H1 ν2 μ2 S2 H2) : Af G ν μ H ν2 μ2 S2 H2 :=
  ⟨a.kp.trans b.kp, a.pre.trans b.pre, b.st, fun y hy => by
    rcases b.nm y hy with q | q
    · exact a.nm y q
    · by_cases hm : y ∈ μ
      · exact .inl hm
      · refine .inr ?_
        cases e : H y with
        | none => rfl
        | some o => exact absurd ((a.lk y o hm e).symm.trans q) (fun z => nomatch z),
   fun y o hm e => b.lk y o (fun q => by
      rcases a.nm y q with z | z
      · exact hm z
      · rw [e] at z; cases z) (a.lk y o hm e)⟩
/-- a new thing, no place -/
theorem Af.new1 {p : Addr} {o : HO} (s : StR G ν μ S H) (h : H p = none) : Af G ν μ H ν μ S (upd H p o) :=
  ⟨.new1 h, List.prefix_refl _, s.new1 h, fun _ h => .inl h, fun a u _ e => by rw [upd_ne (ne_of_none e h)]; exact e⟩
theorem Dn.af {S' : Sto} (a : Af G ν μ H ν' μ' S' H') {t : Tv} {v : V} (d : Dn G ν μ H t v) : Dn G ν' μ' H' t v := Dn.kp a.kp a.pre t v d
theorem Dns.af {S' : Sto} (a : Af G ν μ H ν' μ' S' H') {t : List Tv} {v : List V} (d : Dns G ν μ H t v) : Dns G ν' μ' H' t v := Dns.kp a.kp a.pre t v d
/-- the names' values -/
structure EnR (G : Wd) (ν μ : List Addr) (H : Hp) (env : Env) (σ : St) : Prop where
  len : env.length = σ.length
  at' : ∀ (i : Nat) (t : Tv), env[i]? = some (some t) → ∃ v, σ[i]? = some (some v) ∧ Dn G ν μ H t v
theorem EnR.af {S' : Sto} {env : Env} {σ : St} (a : Af G ν μ H ν' μ' S' H') (r : EnR G ν μ H env σ) : EnR G ν' μ' H' env σ :=
  ⟨r.len, fun i t e => let ⟨v, h1, h2⟩ := r.at' i t e; ⟨v, h1, h2.af a⟩⟩
theorem EnR.set {env : Env} {σ : St} {i : Nat} {t : Tv} {v : V} (r : EnR G ν μ H env σ) (d : Dn G ν μ H t v) : EnR G ν μ H (env.set i (some t)) (σ.set i (some v)) := by
  refine ⟨by rw [List.length_set, List.length_set]; exact r.len, fun j u e => ?_⟩
  by_cases z : i = j
  · subst z
    by_cases hl : i < env.length
    · rw [List.getElem?_set_self hl] at e
      cases e
      exact ⟨v, List.getElem?_set_self (by rw [← r.len]; exact hl), d⟩
    · rw [List.getElem?_eq_none (by rw [List.length_set]; omega)] at e
      cases e
  · rw [List.getElem?_set_ne z] at e
    rw [List.getElem?_set_ne z]
    exact r.at' j u e
theorem EnR.wipe {env : Env} {σ : St} (r : EnR G ν μ H env σ) : ∀ vs : List Nat, EnR G ν μ H (wipeE env vs) (L2.wipe σ vs)
  | [] => r
  | v :: vs => by
    have q := EnR.wipe r vs
    refine ⟨?_, fun j u e => ?_⟩
    · show ((wipeE env vs).set v none).length = ((L2.wipe σ vs).set v none).length
      rw [List.length_set, List.length_set]; exact q.len
    · change ((wipeE env vs).set v none)[j]? = some (some u) at e
      show ∃ w, ((L2.wipe σ vs).set v none)[j]? = some (some w) ∧ _
      by_cases z : v = j
      · subst z
        by_cases hl : v < (wipeE env vs).length
        · rw [List.getElem?_set_self hl] at e; cases e
        · rw [List.getElem?_eq_none (by rw [List.length_set]; omega)] at e
          cases e
      · rw [List.getElem?_set_ne z] at e
        rw [List.getElem?_set_ne z]
        exact q.at' j u e
structure Rl (G : Wd) (env : Env) (S : Sto) (ν μ : List Addr) (σ : St) (H : Hp) : Prop where
  st : StR G ν μ S H
  en : EnR G ν μ H env σ
theorem Rl.af {S S' : Sto} {env : Env} {σ : St} (a : Af G ν μ H ν' μ' S' H') (r : Rl G env S ν μ σ H) : Rl G env S' ν' μ' σ H' := ⟨a.st, r.en.af a⟩

/-- an error of the class c with its fields -/
def XcR (G : Wd) (ν μ : List Addr) (H : Hp) (c : Nat) (fs : List Tv) (cls : Value) (d : Option Addr) : Prop :=
  ∃ C, cls = .ref C ∧ G.mg (G.cls c).1 = some (.ref C) ∧ match d with
    | none => fs = []
    | some dx => ∃ vs, H dx = some (.xd vs) ∧ vs.map (·.1) = (G.cls c).2 ∧ Dns G ν μ H fs (vs.map (·.2))
/-- what is wanted behind: of a value, of an error -/
def Fin {α β : Type} (G : Wd) (W : Value → Option Addr → Hp → Prop) (D : List Addr → List Addr → Hp → α → β → Prop) (ν μ : List Addr) (H : Hp) (r : Rs α) (Q : β → Hp → Prop) : Prop :=
  match r with
  | .ok t S' => ∀ v H' ν' μ', Af G ν μ H ν' μ' S' H' → D ν' μ' H' t v → Q v H'
  | .ex c fs S' => ∀ cls d H' ν' μ', Af G ν μ H ν' μ' S' H' → XcR G ν' μ' H' c fs cls d → W cls d H'
  | .bad => False
abbrev DV (G : Wd) : List Addr → List Addr → Hp → Tv → V → Prop := fun ν μ H t v => Dn G ν μ H t v
abbrev DVs (G : Wd) : List Addr → List Addr → Hp → List Tv → List V → Prop := fun ν μ H t v => Dns G ν μ H t v
abbrev DB : List Addr → List Addr → Hp → Bool → Bool → Prop := fun _ _ _ t v => t = v
section
variable {α β γ δ : Type} {W : Value → Option Addr → Hp → Prop} {D : List Addr → List Addr → Hp → α → β → Prop} {D' : List Addr → List Addr → Hp → γ → δ → Prop}
theorem Fin.mono {r : Rs α} {Q Q' : β → Hp → Prop} (h : Fin G W D ν μ H r Q) (q : ∀ v H', Q v H' → Q' v H') : Fin G W D ν μ H r Q' := by
  cases r with
  | ok t S' => exact fun v H' ν' μ' a d => q v H' (h v H' ν' μ' a d)
  | ex c fs S' => exact h
  | bad => exact h
theorem Fin.after {r : Rs α} {Q : β → Hp → Prop} {S' : Sto} (a : Af G ν μ H ν' μ' S' H') (h : Fin G W D ν μ H r Q) : Fin G W D ν' μ' H' r Q := by
  cases r with
  | ok t S' => exact fun v H2 ν2 μ2 b d => h v H2 ν2 μ2 (a.trans b) d
  | ex c fs S' => exact fun cls d H2 ν2 μ2 b x => h cls d H2 ν2 μ2 (a.trans b) x
  | bad => exact h
theorem Fin.ok {t : α} {Q : β → Hp → Prop} {v : β} (h : Fin G W D ν μ H (.ok t S) Q) (s : StR G ν μ S H) (d : D ν μ H t v) : Q v H := h v H ν μ (.refl s) d
/-- one piece, then the rest -/
theorem Fin.bnd {r : Rs α} {k : α → M γ} {Q : δ → Hp → Prop} (h : Fin G W D' ν μ H (r.bnd k) Q) :
    Fin G W D ν μ H r fun v H1 => ∃ t S1 ν1 μ1, Af G ν μ H ν1 μ1 S1 H1 ∧ D ν1 μ1 H1 t v ∧ Fin G W D' ν1 μ1 H1 (k t S1) Q := by
  cases r with
  | ok t S1 => exact fun v H1 ν1 μ1 a d => ⟨t, S1, ν1, μ1, a, d, Fin.after a h⟩
  | ex c fs S1 => exact h
  | bad => exact h.elim
end

/-! ### readings -/
def tE (G : Wd) (W : WX) (f : Env → M Tv) : TE := fun σ H Q => ∃ env S ν μ, Rl G env S ν μ σ H ∧ Fin G (fun c d H' => W c d σ H') (DV G) ν μ H (f env S) Q
def tT (G : Wd) (W : WX) (f : Env → M Bool) : TT := fun σ H Q => ∃ env S ν μ, Rl G env S ν μ σ H ∧ Fin G (fun c d H' => W c d σ H') DB ν μ H (f env S) Q
def tA (G : Wd) (W : WX) (f : Env → M (List Tv)) : TA := fun σ H Q => ∃ env S ν μ, Rl G env S ν μ σ H ∧ Fin G (fun c d H' => W c d σ H') (DVs G) ν μ H (f env S) Q
variable {X : Cx} {W : WX} {e a b : Expr} {f g : Env → M Tv} {pos : Pos}
theorem PE.imp {t t' : TE} (h : PE X e t) (i : ∀ σ H Q, t' σ H Q → t σ H Q) : PE X e t' := ⟨fun pins s σ H Q I q => h.run pins s σ H Q I (i σ H Q q)⟩
theorem PT.imp {t t' : TT} (h : PT X e t) (i : ∀ σ H Q, t' σ H Q → t σ H Q) : PT X e t' := ⟨fun pins s σ H Q I q => h.run pins s σ H Q I (i σ H Q q)⟩
theorem PA.imp {es : List Expr} {t t' : TA} (h : PA X es t) (i : ∀ σ H Q, t' σ H Q → t σ H Q) : PA X es t' := ⟨fun pos pins s σ H Q I q => h.run pos pins s σ H Q I (i σ H Q q)⟩
theorem PS.imp {st : Stmt} {t t' : TS} (h : PS X st t) (i : ∀ D σ H, t' D σ H → t D σ H) : PS X st t' := ⟨fun pins s σ H D I q => h.run pins s σ H D I (i D σ H q)⟩
theorem PSs.imp {st : List Stmt} {t t' : TS} (h : PSs X st t) (i : ∀ D σ H, t' D σ H → t D σ H) : PSs X st t' := ⟨fun pins s σ H D I q => h.run pins s σ H D I (i D σ H q)⟩
theorem PI.imp {tg : Expr} {t t' : TI} (h : PI X tg e t) (i : ∀ σ H Q, t' σ H Q → t σ H Q) : PI X tg e t' := ⟨fun pins s σ H Q I q => h.run pins s σ H Q I (i σ H Q q)⟩
theorem tE.mono {σ : St} {Q Q' : VK} (h : tE G W f σ H Q) (q : ∀ v H', Q v H' → Q' v H') : tE G W f σ H Q' := by
  obtain ⟨env, S, ν, μ, r, h⟩ := h
  exact ⟨env, S, ν, μ, r, h.mono q⟩
/-- one expression, then a step of its value -/
theorem tE.one {σ : St} {Q : VK} {k : Tv → M Tv} {P : VK} (h : tE G W (fun env => bnd (f env) k) σ H Q)
    (q : ∀ (S : Sto) (ν μ : List Addr) (v : V) (H' : Hp) (t : Tv), StR G ν μ S H' → Dn G ν μ H' t v → Fin G (fun c d H' => W c d σ H') (DV G) ν μ H' (k t S) Q → P v H') : tE G W f σ H P := by
  obtain ⟨env, S, ν, μ, r, h⟩ := h
  exact ⟨env, S, ν, μ, r, (Fin.bnd (D := DV G) h).mono fun v H' ⟨t, S1, ν1, μ1, a, d, z⟩ => q S1 ν1 μ1 v H' t a.st d z⟩
theorem tE.two {σ : St} {Q : VK} {k : Tv → Tv → M Tv} {P : V → VK} (h : tE G W (fun env => bnd (f env) fun x => bnd (g env) fun y => k x y) σ H Q)
    (q : ∀ (S : Sto) (ν μ : List Addr) (v w : V) (H' : Hp) (t u : Tv), StR G ν μ S H' → Dn G ν μ H' t v → Dn G ν μ H' u w → Fin G (fun c d H' => W c d σ H') (DV G) ν μ H' (k t u S) Q → P v w H') :
    tE G W f σ H fun v H1 => tE G W g σ H1 fun w H2 => P v w H2 := by
  obtain ⟨env, S, ν, μ, r, h⟩ := h
  refine ⟨env, S, ν, μ, r, (Fin.bnd (D := DV G) h).mono fun v H1 ⟨t, S1, ν1, μ1, a, d, z⟩ => ?_⟩
  exact ⟨env, S1, ν1, μ1, r.af a, (Fin.bnd (D := DV G) z).mono fun w H2 ⟨u, S2, ν2, μ2, a2, d2, z2⟩ => q S2 ν2 μ2 v w H2 t u a2.st (d.af a2) d2 z2⟩
end Mp
namespace Mp
open PySem L2 PySem.Spec PyProof.Rows

/-! ### what a def promises, where no repr is under way -/
structure FnG (G : Wd) (k : Nat) (f : Addr) (fd : FuncData) (ps : List Str) (sp : Sp) : Prop where
  len : ∀ vs H Q E, sp vs H Q E → vs.length = ps.length
  run : ∀ (A : Around) (outer : List PySem.Env) (s : Shared) (H : Hp) (args : Args) (us : List Value) (vs : List V) (Q : VK) (E : XK),
    Room k A → A.guards = some [] → Env0 G.P G.w G.K G.mg G.base A outer s H → BindsTo s fd args (ps.zip us) → Vals vs us → sp vs H Q E →
      codeAny (model G.P G.w) A (.call (.ref f) args) (CR (CX G.P G.w) outer G.P G.w H s Q E) s
/-- the context stands in the world G -/
structure InW (G : Wd) (X : Cx) : Prop where
  P : X.prog = G.P
  w : X.w = G.w
  K : X.K = G.K
  mg : X.mg = G.mg
  base : X.base = G.base
  gd : X.A.guards = some []
section
variable {G : Wd} {X : Cx} {W : WX} {k : Nat} {f : Addr} {fd : FuncData} {ps : List Str} {sp : Sp} {x : Str} {p pos : Pos} {es : List Expr} {t : TA} {e : Expr}
def notStar : Expr → Bool
  | .Starred _ _ => false
  | _ => true
theorem star_cons {env : PySem.Env} (h : notStar e = true) (es : List Expr) : starEach (e :: es) env = (false, eval e env) :: starEach es env := by
  cases e <;> first | rfl | cases h
theorem star_any {env : PySem.Env} : ∀ {es : List Expr}, es.all notStar = true → (backTo pos (starEach es env)).any (·.1) = false
  | [], _ => rfl
  | e :: es, h => by
    have h' : notStar e = true ∧ es.all notStar = true := by simpa using h
    rw [star_cons h'.1]
    show (false || (backTo pos (starEach es env)).any (·.1)) = false
    rw [star_any h'.2]
    rfl
theorem back (Iw : InW G X) (tk : Takes X W) {pins : List (Addr × Obj)} {σ : L2.St} {H : Hp} {s : Shared} {Q : VK} {us : List Value} {vs : List V} (F : FnG G k f fd ps sp) (hr : Room k X.A) (hb : Binds G.K fd ps [])
    (I : Inv X pins σ H s) (r : Vals vs us) (h : sp vs H Q (WE W σ)) : wpAny (model X.prog X.w) X.A (call (.ref f) us) (EP X pins σ Q) X.xe s := by
  have n1 : (us ++ []).length = ps.length := by
    rw [List.append_nil, ← r.length]
    exact F.len _ _ _ _ h
  have e0 := I.env0
  rw [Iw.P, Iw.w, Iw.K, Iw.mg, Iw.base] at e0
  have kin := I.kIn
  rw [Iw.K] at kin
  have bt := hb s us kin n1
  rw [List.append_nil] at bt
  have rn := F.run X.A X.stack s H ⟨us, []⟩ us vs Q (WE W σ) hr Iw.gd e0 bt r h
  rw [← Iw.P, ← Iw.w] at rn
  refine wpAny_call (codeAny_mono rn fun z s' hz => ?_)
  match z, hz with
  | .error er, hz => exact passAt tk σ pins H s er s' I hz
  | .ok (.ret u), hz => exact I.after hz
  | .ok .next, hz => exact hz.elim
  | .ok .brk, hz => exact hz.elim
  | .ok .cont, hz => exact hz.elim
def tCl (sp : Sp) (W : WX) (t : TA) : TE := fun σ H Q => t σ H fun vs H1 => sp vs H1 Q (WE W σ)
theorem pe_cl (Iw : InW G X) (tk : Takes X W) (F : FnG G k f fd ps sp) (hr : Room k X.A) (hg : Gl X x) (hm : G.mg x = some (.ref f)) (hk : PySem.W.keepIn G.K (.ref f) = true) (hb : Binds G.K fd ps [])
    (ha : PA X (e :: es) t) (ns : (e :: es).all notStar = true) (hdb : (x == ("__debug__" : Str)) = false) : PE X (.Call (.Name x p) (e :: es) [] pos) (tCl sp W t) := by
  constructor
  intro pins s σ H Q I h
  have hm' : X.mg x = some (.ref f) := by rw [Iw.mg]; exact hm
  refine wpAny_Call_Name_kw (ld_glob I hg hm' ?_ hdb)
  have kX : PySem.W.keepIn X.K (.ref f) = true := by rw [Iw.K]; exact hk
  have ns' : notStar e = true ∧ es.all notStar = true := by simpa using ns
  refine PySem.W.callWith_K (h₀ := X.base) I.ok.mod.kin kX ?_ (star_cons ns'.1 es) (star_any ns'.2)
  exact thn (ha.run pos pins s σ H _ I h) fun us s1 ⟨vs, H1, I1, r, q⟩ => ⟨I1.kIn, back Iw tk F hr hb I1 r q⟩
theorem pe_cl0 (Iw : InW G X) (tk : Takes X W) (F : FnG G k f fd ps sp) (hr : Room k X.A) (hg : Gl X x) (hm : G.mg x = some (.ref f)) (hk : PySem.W.keepIn G.K (.ref f) = true) (hb : Binds G.K fd ps [])
    (hdb : (x == ("__debug__" : Str)) = false) : PE X (.Call (.Name x p) [] [] pos) (tCl sp W tNil) := by
  constructor
  intro pins s σ H Q I h
  have hm' : X.mg x = some (.ref f) := by rw [Iw.mg]; exact hm
  refine wpAny_Call_Name_kw (ld_glob I hg hm' ?_ hdb)
  have kX : PySem.W.keepIn X.K (.ref f) = true := by rw [Iw.K]; exact hk
  exact PySem.W.callWith_K0 I.kIn kX (back (us := []) Iw tk F hr hb I .nil h)
end

/-! ### a def's body keeps its promise -/
theorem fnG_of {G : Wd} {k : Nat} {f : Addr} {name qual : Str} {params : Arguments} {body : List Stmt} {scope : Scope} {dV kV doc pm cdv ct oc : Value} {an od : Option Addr}
    {osl : Array (Option Value)} {N ps : List Str} {sp : Sp} (lk : G.K.lookup f = some ⟨oc, od, .func (PySem.W.fnOf name qual params body scope dV kV doc pm an cdv ct), osl⟩)
    (hcd : PySem.W.codeIn G.K cdv qual = true) (S : FnScope N ps scope) (len : ∀ vs H Q E, sp vs H Q E → vs.length = ps.length)
    (bd : ∀ (A : Around) (outer : List PySem.Env) (s : Shared) (H : Hp) (vs : List V) (Q : VK) (E : XK), Room k (A.deeper (envOfC qual scope s.heap.objs.size f cdv)) → A.guards = some [] → sp vs H Q E →
      ∃ t, PSs (cxOf (CX G.P G.w) G.P G.w G.K G.mg G.base N qual scope f cdv A outer s H E) body t ∧ t { nx := fun _ H' => Q .non H', rt := Q } (start N vs) H) :
    FnG G (k + 1) f (PySem.W.fnOf name qual params body scope dV kV doc pm an cdv ct) ps sp := by
  constructor
  · exact len
  intro A outer s H args us vs Q E hr hg e0 hb r hsp
  have up : ∀ b o, G.base.get? b = some o → s.heap.get? b = some o := fun b o q => (e0.bs b o q).1
  have inK : G.K.In s.heap := e0.mod.kin.keeps up
  have kinds : ∀ y ∈ ps.zip us, scope.names.lookup y.1 = some .local ∨ (scope.names.lookup y.1 = some .cell ∧ ((cellsFrom (s.heap.objs.size + 1) scope.names []).lookup y.1).isSome = true) := by
    intro y hy
    obtain ⟨n, v⟩ := y
    rcases S.par n (List.of_mem_zip hy).1 with q | q
    · exact Or.inl q
    · exact Or.inr ⟨q, PySem.W.cellsFrom_some _ _ _ (Or.inl q)⟩
  refine codeAny_call_function hr.depth (inK _ _ lk) rfl S.co S.gen rfl (PySem.W.codeRec_of inK hcd) (hb _ _ _ _ ?_)
  refine wpAny_newFunctionEnv_cells S.kind kinds ?_
  intro env he s1 x
  subst he
  constructor
  · exact (e0.mod.nolimit.keeps up).keeps x.toInCall.keep
  apply codeAny_func
  obtain ⟨t, ht, hq⟩ := bd A outer s H vs Q E (hr.deeper _) hg hsp
  have I := inv_start (CX := CX G.P G.w) (E := E) S hr.hd e0 (len _ _ _ _ hsp) r x
  refine wpAny_mono (ht.run [] s1 (start N vs) H _ I hq) ?_ fun e s' hs => hs
  intro fl s' hs
  match fl, hs with
  | .ret u, ⟨v, σ', H', J, rv, q⟩ => exact ⟨v, H', J.os, J.bare, J.base, J.hok, rv, q⟩
  | .next, ⟨σ', H', J, q⟩ => exact ⟨.non, H', J.os, J.bare, J.base, J.hok, rfl, q⟩
  | .brk, ⟨_, _, _, q⟩ => exact q.elim
  | .cont, ⟨_, _, _, q⟩ => exact q.elim
end Mp
namespace Mp
open PySem L2 PySem.Spec

section
variable {G : Wd} {ν μ ν' μ' : List Addr} {H H' : Hp} {S S' : Sto} {α β : Type} {Wc : Value → Option Addr → Hp → Prop} {D : List Addr → List Addr → Hp → α → β → Prop}
theorem Fin.opt {o : Option α} {Q : β → Hp → Prop} (h : Fin G Wc D ν μ H (opt o S) Q) : ∃ t, o = some t ∧ Fin G Wc D ν μ H (.ok t S) Q := by
  cases o with
  | none => exact h.elim
  | some t => exact ⟨t, rfl, h⟩
theorem Fin.val {t : Tv} {v : V} {Q : VK} (h : Fin G Wc (DV G) ν μ H (.ok t S) Q) (s : StR G ν μ S H) (d : Dn G ν μ H t v) : Q v H := Fin.ok h s d
/-- a new thing that is no place -/
theorem Fin.new {t : Tv} {p : Addr} {o : HO} {Q : VK} (h : Fin G Wc (DV G) ν μ H (.ok t S) Q) (s : StR G ν μ S H) (hp : H p = none) (d : Dn G ν μ (upd H p o) t (.ref p)) : Q (.ref p) (upd H p o) :=
  h (.ref p) _ ν μ (.new1 s hp) d
/-- a new list -/
theorem Dn.lst {ts : List Tv} {vs : List V} {p : Addr} (hn : p ∉ ν) (e : H p = some (.lst vs)) (d : Dns G ν μ H ts vs) : Dn G ν μ H (.lst ts) (.ref p) := by
  simp only [Dn]
  exact ⟨p, vs, rfl, ⟨hn, e⟩, d⟩
theorem Dn.tup {ts : List Tv} {vs : List V} {p : Addr} (hn : p ∉ ν) (e : H p = some (.tup vs)) (d : Dns G ν μ H ts vs) : Dn G ν μ H (.tup ts) (.ref p) := by
  simp only [Dn]
  exact ⟨p, vs, rfl, .inl ⟨hn, .inl e⟩, d⟩
theorem Fin.newL {ts : List Tv} {vs : List V} {p : Addr} {Q : VK} (h : Fin G Wc (DV G) ν μ H (.ok (.lst ts) S) Q) (s : StR G ν μ S H) (hp : H p = none) (d : Dns G ν μ H ts vs) : Q (.ref p) (upd H p (.lst vs)) :=
  h.new s hp (Dn.lst (s.fresh hp) upd_same (Dns.kp (.new1 hp) (List.prefix_refl _) _ _ d))
theorem Fin.newT {ts : List Tv} {vs : List V} {p : Addr} {Q : VK} (h : Fin G Wc (DV G) ν μ H (.ok (.tup ts) S) Q) (s : StR G ν μ S H) (hp : H p = none) (d : Dns G ν μ H ts vs) : Q (.ref p) (upd H p (.tup vs)) :=
  h.new s hp (Dn.tup (s.fresh hp) upd_same (Dns.kp (.new1 hp) (List.prefix_refl _) _ _ d))
/-- what a list, a tuple is -/
theorem lst_of {t : Tv} {v : V} {ts : List Tv} (s : StR G ν μ S H) (d : Dn G ν μ H t v) (e : lstOf S t = some ts) : ∃ a vs, v = .ref a ∧ H a = some (.lst vs) ∧ Dns G ν μ H ts vs := by
  cases t with
  | lst us =>
    simp only [lstOf, Option.some.injEq] at e
    subst e
    simp only [Dn] at d
    obtain ⟨a, vs, e, f, d⟩ := d
    exact ⟨a, vs, e, f.2, d⟩
  | cell n =>
    simp only [lstOf] at e
    simp only [Dn] at d
    obtain ⟨a, ev, ea⟩ := d
    split at e
    · rename_i us hs
      cases e
      obtain ⟨vs, q, d⟩ := s.at hs ea
      exact ⟨a, vs, ev, q, d⟩
    · cases e
  | _ => simp [lstOf] at e
theorem seq_of {t : Tv} {v : V} {ts : List Tv} (s : StR G ν μ S H) (d : Dn G ν μ H t v) (e : seqOf S t = some ts) : ∃ a vs, v = .ref a ∧ (SqL G.K H a vs ∨ SqT G.K H a vs) ∧ Dns G ν μ H ts vs := by
  cases t with
  | tup us =>
    simp only [seqOf, Option.some.injEq] at e
    subst e
    simp only [Dn] at d
    obtain ⟨a, vs, e, f, d⟩ := d
    exact ⟨a, vs, e, .inr f.sq, d⟩
  | lst us =>
    obtain ⟨a, vs, e, f, d⟩ := lst_of (ts := ts) s d (by simpa [seqOf, lstOf] using e)
    exact ⟨a, vs, e, .inl (.inl (.inl f)), d⟩
  | cell n =>
    obtain ⟨a, vs, e, f, d⟩ := lst_of (ts := ts) s d (by simpa [seqOf, lstOf] using e)
    exact ⟨a, vs, e, .inl (.inl (.inl f)), d⟩
  | _ => simp [seqOf] at e
theorem ints_of : ∀ {ts : List Tv} {vs : List V} {ns : List Int}, Dns G ν μ H ts vs → intsOf ts = some ns → vs = ns.map V.int
  | [], vs, ns, d, e => by
    simp only [intsOf, Option.some.injEq] at e
    simp only [Dns] at d
    rw [d, ← e] <;> rfl
  | t :: r, vs, ns, d, e => by
    simp only [Dns] at d
    obtain ⟨v, vr, rfl, d1, d2⟩ := d
    cases t with
    | int i =>
      simp only [intsOf] at e
      cases h : intsOf r with
      | none => rw [h] at e; cases e
      | some ms =>
        rw [h] at e
        cases e
        simp only [Dn] at d1
        rw [d1, ints_of d2 h] <;> rfl
    | _ => simp [intsOf] at e
theorem bls_of : ∀ {ts : List Tv} {vs : List V} {ns : List Bool}, Dns G ν μ H ts vs → blsOf ts = some ns → vs = ns.map V.bl
  | [], vs, ns, d, e => by
    simp only [blsOf, Option.some.injEq] at e
    simp only [Dns] at d
    rw [d, ← e] <;> rfl
  | t :: r, vs, ns, d, e => by
    simp only [Dns] at d
    obtain ⟨v, vr, rfl, d1, d2⟩ := d
    cases t with
    | bl i =>
      simp only [blsOf] at e
      cases h : blsOf r with
      | none => rw [h] at e; cases e
      | some ms =>
        rw [h] at e
        cases e
        simp only [Dn] at d1
        rw [d1, bls_of d2 h] <;> rfl
    | _ => simp [blsOf] at e
theorem lim_le {n : Nat} (h : n ≤ lim) : n ≤ sizeLine := Nat.le_trans h (by rw [sizeLine_eq]; unfold lim; decide)
end

/-! ### sum, max, min of lists and of tuples -/
section
variable {X : Cx}
theorem CallR.imp {f : Value} {r r' : List V → Hp → VK → Prop} (h : CallR X f r) (i : ∀ vs H Q, r' vs H Q → r vs H Q) : CallR X f r' :=
  fun pins s σ H vs us Q I rv q => h pins s σ H vs us Q I rv (i vs H Q q)
theorem holdInts {h : Heap} : ∀ {us : List Value} {ns : List Int}, PyProof.Rows.IntsAre us ns → PySem.W.HoldAll h us ns
  | [], _, .nil => ⟨_, .nil⟩
  | _ :: _, _, .cons n t r => by
    obtain ⟨as, q⟩ := holdInts (h := h) r
    exact ⟨_, .cons (.int n t) q⟩
theorem holds_int {h : Heap} {v : Value} {n : Int} (q : PySem.W.Holds h v n) : ∃ t, v = .int n t := by
  obtain ⟨as, r⟩ := q
  cases r with
  | int i t => exact ⟨t, rfl⟩
def rSumT (K : PySem.W.Frag) : List V → Hp → VK → Prop := fun vs H Q => ∃ (a : Addr) (ns : List Int), vs = [V.ref a] ∧ SqT K H a (ns.map V.int) ∧ Q (.int ns.sum) H
theorem cr_sumT (hc : X.calm = true) : CallR X (.builtin "sum") (rSumT X.K) := by
  intro pins s σ H vs us Q I r h
  obtain ⟨a, ns, rfl, hs, q⟩ := h
  obtain ⟨its, rv, hl, _⟩ := I.tuple hs
  rw [Vals.ref1 r]
  obtain ⟨xs, hx⟩ := rv.ints.allInts.items
  have hn : numsOf its.toArray.toList = ns := by rw [show its.toArray.toList = its from rfl, rv.ints.numsOf]
  rw [hx] at hl hn
  rw [nums_intItems] at hn
  refine PySem.W.ktm_sumG (I.ok.hd hc) hl fun h' tk t' hk => ?_
  refine ⟨.int _, H, I.kept hk, ⟨t', ?_⟩, q⟩
  rw [preSum_eq, List.take_of_length_le (by simp), hn]
def rMM (K : PySem.W.Frag) (f : List Int → Int) : List V → Hp → VK → Prop := fun vs H Q => ∃ (a : Addr) (ns : List Int), vs = [V.ref a] ∧ (SqL K H a (ns.map V.int) ∨ SqT K H a (ns.map V.int)) ∧ 0 < ns.length ∧ Q (.int (f ns)) H
theorem cr_minA (hc : X.calm = true) (hu : X.A.units + 64 < cLine) : CallR X (.builtin "min") (rMM X.K leastOf) := by
  intro pins s σ H vs us Q I r h
  obtain ⟨a, ns, rfl, hs, hn, q⟩ := h
  rw [Vals.ref1 r]
  cases ns with
  | nil => exact absurd hn (by simp)
  | cons x xs =>
    have fin : ∀ (v : Value) (h' : Heap) (tk : Nat), PySem.W.Holds h' v (PySem.W.minOf x xs) → (∀ b o, s.heap.get? b = some o → h'.get? b = some o) → EP X pins σ Q v { s with heap := h', toks := tk } := by
      intro v h' tk hv hk
      obtain ⟨t, rfl⟩ := holds_int hv
      exact ⟨.int _, H, I.kept hk, ⟨t, rfl⟩, q⟩
    rcases hs with hs | hs
    · obtain ⟨its, rv, hl, _⟩ := I.list hs
      exact PySem.W.min_list_datum (α := Int) (I.ok.hd hc) hl.isList (holdInts rv.ints) (by show X.A.units + 1 + 0 < cLine; omega) fun i v h' tk _ hv hk => fin v h' tk hv hk
    · obtain ⟨its, rv, hl, _⟩ := I.tuple hs
      exact PySem.W.min_tuple_datum (α := Int) (I.ok.hd hc) hl (holdInts rv.ints) (by show X.A.units + 1 + 0 < cLine; omega) fun i v h' tk _ hv hk => fin v h' tk hv hk
theorem cr_maxA (hc : X.calm = true) (hu : X.A.units + 64 < cLine) : CallR X (.builtin "max") (rMM X.K mostOf) := by
  intro pins s σ H vs us Q I r h
  obtain ⟨a, ns, rfl, hs, hn, q⟩ := h
  rw [Vals.ref1 r]
  cases ns with
  | nil => exact absurd hn (by simp)
  | cons x xs =>
    have fin : ∀ (v : Value) (h' : Heap) (tk : Nat), PySem.W.Holds h' v (PySem.W.maxOf x xs) → (∀ b o, s.heap.get? b = some o → h'.get? b = some o) → EP X pins σ Q v { s with heap := h', toks := tk } := by
      intro v h' tk hv hk
      obtain ⟨t, rfl⟩ := holds_int hv
      exact ⟨.int _, H, I.kept hk, ⟨t, rfl⟩, q⟩
    rcases hs with hs | hs
    · obtain ⟨its, rv, hl, _⟩ := I.list hs
      exact PySem.W.max_list_datum (α := Int) (I.ok.hd hc) hl.isList (holdInts rv.ints) (by show X.A.units + 1 + 0 < cLine; omega) fun i v h' tk _ hv hk => fin v h' tk hv hk
    · obtain ⟨its, rv, hl, _⟩ := I.tuple hs
      exact PySem.W.max_tuple_datum (α := Int) (I.ok.hd hc) hl (holdInts rv.ints) (by show X.A.units + 1 + 0 < cLine; omega) fun i v h' tk _ hv hk => fin v h' tk hv hk
end

/-! ### data: == and repr -/
mutual
/-- the library's data -/
def Tv.pd : Tv → PyData
  | .non => .none
  | .bl b => .bool b
  | .int i => .int i
  | .str x => .str x
  | .tup ts => .tuple (Tv.pds ts)
  | .lst ts => .list (Tv.pds ts)
  | .dct => .dict []
  | _ => .none
def Tv.pds : List Tv → List PyData
  | [] => []
  | t :: r => Tv.pd t :: Tv.pds r
end
mutual
theorem pd_shown : ∀ t : Tv, ∀ k, t.rOk k = true → (Tv.pd t).shown = t.shown
  | .non, _, _ => rfl
  | .bl b, _, _ => rfl
  | .int i, _, _ => rfl
  | .str x, _, _ => rfl
  | .tup ts, k, h => by
    cases k with
    | zero => simp [Tv.rOk] at h
    | succ k =>
      simp only [Tv.pd, Tv.shown, PyData.shown]
      rw [pds_shown ts k (by simpa [Tv.rOk] using h)]
  | .lst ts, k, h => by
    cases k with
    | zero => simp [Tv.rOk] at h
    | succ k =>
      simp only [Tv.pd, Tv.shown, PyData.shown]
      rw [pds_shown ts k (by simpa [Tv.rOk] using h)]
  | .dct, _, _ => by decide +kernel
  | .scr _, k, h => by cases k <;> simp [Tv.rOk] at h
  | .ins _ _, k, h => by cases k <;> simp [Tv.rOk] at h
  | .cell _, k, h => by cases k <;> simp [Tv.rOk] at h
theorem pds_shown : ∀ ts : List Tv, ∀ k, Tv.rOks k ts = true → PyData.shownAll (Tv.pds ts) = Tv.showns ts
  | [], _, _ => rfl
  | t :: r, k, h => by
    have h' : t.rOk k = true ∧ Tv.rOks k r = true := by simpa [Tv.rOks] using h
    simp only [Tv.pds, Tv.showns, PyData.shownAll]
    rw [pd_shown t k h'.1, pds_shown r k h'.2]
end
set_option exponentiation.threshold 3000 in
theorem int_len {i : Int} (h : i.natAbs.log2 < 1920) : (PyData.shown (.int i)).length ≤ 600 := by
  have h1 : i.natAbs < 2 ^ 1920 := by
    by_cases z : i.natAbs = 0
    · rw [z]; exact Nat.two_pow_pos _
    · exact (Nat.log2_lt z).mp h
  have h2 : i.natAbs < 10 ^ 578 := Nat.lt_of_lt_of_le h1 (Nat.le_of_ble_eq_true rfl)
  have e := int_text_length_le10 (k := 578) (by decide) h2
  show (Str.ofString (toString i)).length ≤ 600
  rw [PySem.ofString_length]
  omega
mutual
theorem pd_ok : ∀ t : Tv, ∀ k, t.rOk k = true → (Tv.pd t).showable = true ∧ (Tv.pd t).leavesShort 600 = true ∧ (Tv.pd t).depth ≤ k + 1 ∧ (Tv.pd t).bulk = t.bulk
  | .non, _, _ => ⟨rfl, rfl, Nat.zero_le _, rfl⟩
  | .bl b, _, _ => ⟨rfl, rfl, Nat.zero_le _, rfl⟩
  | .int i, k, h => by
    have h' : i.natAbs.log2 < 1920 := by cases k <;> simpa [Tv.rOk] using h
    refine ⟨by simpa [Tv.pd, PyData.showable] using h', ?_, Nat.zero_le _, rfl⟩
    simp only [Tv.pd, PyData.leavesShort, decide_eq_true_eq]
    exact int_len h'
  | .str x, k, h => by
    refine ⟨rfl, ?_, Nat.zero_le _, rfl⟩
    cases k <;> simpa [Tv.rOk, Tv.pd, PyData.leavesShort] using h
  | .tup ts, k, h => by
    cases k with
    | zero => simp [Tv.rOk] at h
    | succ k =>
      obtain ⟨h1, h2, h3, h4⟩ := pds_ok ts k (by simpa [Tv.rOk] using h)
      exact ⟨by simpa [Tv.pd, PyData.showable] using h1, by simpa [Tv.pd, PyData.leavesShort] using h2, by simp only [Tv.pd, PyData.depth]; omega, by simpa [Tv.pd, PyData.bulk, Tv.bulk] using h4⟩
  | .lst ts, k, h => by
    cases k with
    | zero => simp [Tv.rOk] at h
    | succ k =>
      obtain ⟨h1, h2, h3, h4⟩ := pds_ok ts k (by simpa [Tv.rOk] using h)
      exact ⟨by simpa [Tv.pd, PyData.showable] using h1, by simpa [Tv.pd, PyData.leavesShort] using h2, by simp only [Tv.pd, PyData.depth]; omega, by simpa [Tv.pd, PyData.bulk, Tv.bulk] using h4⟩
  | .dct, _, _ => ⟨rfl, rfl, by simp [Tv.pd, PyData.depth, PyData.depthKv], rfl⟩
  | .scr _, k, h => by cases k <;> simp [Tv.rOk] at h
  | .ins _ _, k, h => by cases k <;> simp [Tv.rOk] at h
  | .cell _, k, h => by cases k <;> simp [Tv.rOk] at h
theorem pds_ok : ∀ ts : List Tv, ∀ k, Tv.rOks k ts = true → PyData.showableAll (Tv.pds ts) = true ∧ PyData.leavesShortAll 600 (Tv.pds ts) = true ∧ PyData.depthAll (Tv.pds ts) ≤ k + 1 ∧ PyData.bulkAll (Tv.pds ts) = Tv.bulks ts
  | [], _, _ => ⟨rfl, rfl, Nat.zero_le _, rfl⟩
  | t :: r, k, h => by
    have h' : t.rOk k = true ∧ Tv.rOks k r = true := by simpa [Tv.rOks] using h
    obtain ⟨a1, a2, a3, a4⟩ := pd_ok t k h'.1
    obtain ⟨b1, b2, b3, b4⟩ := pds_ok r k h'.2
    refine ⟨by simp [Tv.pds, PyData.showableAll, a1, b1], by simp [Tv.pds, PyData.leavesShortAll, a2, b2], ?_, by simp only [Tv.pds, PyData.bulkAll, Tv.bulks, a4, b4]⟩
    simp only [Tv.pds, PyData.depthAll]
    omega
end

theorem thaw_dn {G : Wd} {ν μ : List Addr} {H : Hp} {S : Sto} {t x : Tv} {v : V} (s : StR G ν μ S H) (d : Dn G ν μ H t v) (e : thaw S t = some x) :
    Dn G ν μ H x v ∨ ∃ ts a vs, x = .lst ts ∧ v = .ref a ∧ H a = some (.lst vs) ∧ Dns G ν μ H ts vs := by
  cases t with
  | cell n =>
    simp only [thaw] at e
    simp only [Dn] at d
    obtain ⟨a, ev, ea⟩ := d
    split at e
    · rename_i us hs
      cases e
      obtain ⟨vs, q, d⟩ := s.at hs ea
      exact .inr ⟨us, a, vs, rfl, ev, q, d⟩
    · cases e
  | _ =>
    simp only [thaw, Option.some.injEq] at e
    subst e
    exact .inl d
section
variable {G : Wd} {ν μ : List Addr} {H : Hp} {S : Sto} {X : Cx} {pins : List (Addr × Obj)} {σ : St} {s : Shared}
theorem not_sys (Iw : InW G X) (hb : ∃ o, G.base.get? sysModules = some o) (I : L2.Inv X pins σ H s) {a : Addr} {o : HO} (e : H a = some o) : a ≠ sysModules := by
  rintro rfl
  obtain ⟨o', q⟩ := hb
  rw [← Iw.base] at q
  have := (I.bs _ _ q).2
  rw [e] at this
  cases this
theorem rd_some {a : Addr} {u : HO} (h : Rd H a u) : ∃ o, H a = some o := by
  rcases h with h | ⟨o, h⟩
  · exact ⟨_, h⟩
  · exact ⟨_, h⟩
mutual
theorem rd_of (Iw : InW G X) (hb : ∃ o, G.base.get? sysModules = some o) (I : L2.Inv X pins σ H s) : ∀ (t : Tv) (v : V) (u : Value) (k : Nat), t.rOk k = true → Dn G ν μ H t v → RelV v u → ∃ as, Reads s.heap u t.pd as ∧ sysModules ∉ as
  | .non, v, u, k, _, d, r => by
    simp only [Dn] at d
    subst d
    cases r
    exact ⟨_, .none, by simp⟩
  | .bl b, v, u, k, _, d, r => by
    simp only [Dn] at d
    subst d
    cases r
    exact ⟨_, .bool b, by simp⟩
  | .int i, v, u, k, _, d, r => by
    simp only [Dn] at d
    subst d
    obtain ⟨t, rfl⟩ := r
    exact ⟨_, .int i t, by simp⟩
  | .str x, v, u, k, _, d, r => by
    simp only [Dn] at d
    subst d
    obtain ⟨t, rfl⟩ := r
    exact ⟨_, .str x t, by simp⟩
  | .tup ts, v, u, k, h, d, r => by
    cases k with
    | zero => simp [Tv.rOk] at h
    | succ k =>
      simp only [Dn] at d
      obtain ⟨a, vs, rfl, f, d⟩ := d
      cases r
      have sq : SqT X.K H a vs := by rw [Iw.K]; exact f.sq
      obtain ⟨its, rv, ⟨o, ho, hc, n, hd⟩, _⟩ := I.tuple sq
      obtain ⟨as, q, z⟩ := rds_of Iw hb I ts vs its k (by simpa [Tv.rOk] using h) d rv
      exact ⟨as, .tuple ho hc hd q, z⟩
  | .lst ts, v, u, k, h, d, r => by
    cases k with
    | zero => simp [Tv.rOk] at h
    | succ k =>
      simp only [Dn] at d
      obtain ⟨a, vs, rfl, f, d⟩ := d
      cases r
      obtain ⟨its, rv, ⟨o, n, ho, hc, _, hd⟩, _⟩ := I.list (show SqL X.K H a vs from .inl (.inl f.2))
      obtain ⟨as, q, z⟩ := rds_of Iw hb I ts vs its k (by simpa [Tv.rOk] using h) d rv
      have e' := f.2
      refine ⟨a :: as, .list ho hc hd q, fun m => ?_⟩
      rcases List.mem_cons.mp m with m | m
      · exact not_sys Iw hb I e' m.symm
      · exact z m
  | .dct, v, u, k, _, d, r => by
    simp only [Dn] at d
    obtain ⟨a, rfl, n, e⟩ := d
    cases r
    obtain ⟨_, hs, vs, kv, o, es, ep, ho, hx, hd, _, hp, _⟩ := (show ObjOk X.prog X.w H s.heap a (.dK []) from I.hok a _ e)
    cases kv
    have he : es.toList = [] := by
      cases h : es.toList with
      | nil => rfl
      | cons x r => rw [h] at hp; cases hp
    refine ⟨_, .dict (as := []) (bs := []) (kvs := []) ho hx.1 hd (by rw [he]; exact .nil) (by rw [he]; exact .nil), fun m => ?_⟩
    have m' : sysModules = a := by simpa using m
    rw [m'] at hs
    simp at hs
  | .scr _, v, u, k, h, _, _ => by cases k <;> simp [Tv.rOk] at h
  | .ins _ _, v, u, k, h, _, _ => by cases k <;> simp [Tv.rOk] at h
  | .cell _, v, u, k, h, _, _ => by cases k <;> simp [Tv.rOk] at h
theorem rds_of (Iw : InW G X) (hb : ∃ o, G.base.get? sysModules = some o) (I : L2.Inv X pins σ H s) : ∀ (ts : List Tv) (vs : List V) (us : List Value) (k : Nat), Tv.rOks k ts = true → Dns G ν μ H ts vs → Vals vs us → ∃ as, ReadsAll s.heap us (Tv.pds ts) as ∧ sysModules ∉ as
  | [], vs, us, k, _, d, r => by
    simp only [Dns] at d
    subst d
    cases r
    exact ⟨_, .nil, by simp⟩
  | t :: ts, vs, us, k, h, d, r => by
    have h' : t.rOk k = true ∧ Tv.rOks k ts = true := by simpa [Tv.rOks] using h
    simp only [Dns] at d
    obtain ⟨v, vr, rfl, d1, d2⟩ := d
    cases r with
    | cons r1 r2 =>
      obtain ⟨as, q1, z1⟩ := rd_of Iw hb I t v _ k h'.1 d1 r1
      obtain ⟨bs, q2, z2⟩ := rds_of Iw hb I ts vr _ k h'.2 d2 r2
      exact ⟨_, .cons q1 q2, fun m => (List.mem_append.mp m).elim z1 z2⟩
end
mutual
theorem dp_of : ∀ (t : Tv) (v : V) (k : Nat), t.dOk k = true → Dn G ν μ H t v → Dp G.K H v t.pd
  | .non, v, k, _, d => by
    simp only [Dn] at d
    subst d
    exact .non
  | .bl b, v, k, _, d => by
    simp only [Dn] at d
    subst d
    exact .bl b
  | .int i, v, k, _, d => by
    simp only [Dn] at d
    subst d
    exact .int i
  | .str x, v, k, _, d => by
    simp only [Dn] at d
    subst d
    exact .str x
  | .tup ts, v, k, h, d => by
    cases k with
    | zero => simp [Tv.dOk] at h
    | succ k =>
      simp only [Dn] at d
      obtain ⟨a, vs, rfl, f, d⟩ := d
      exact .tup f.sq (dps_of ts vs k (by simpa [Tv.dOk] using h) d)
  | .lst ts, v, k, h, d => by
    cases k with
    | zero => simp [Tv.dOk] at h
    | succ k =>
      simp only [Dn] at d
      obtain ⟨a, vs, rfl, f, d⟩ := d
      exact .lst f.sq (dps_of ts vs k (by simpa [Tv.dOk] using h) d)
  | .dct, v, k, h, _ => by cases k <;> simp [Tv.dOk] at h
  | .scr _, v, k, h, _ => by cases k <;> simp [Tv.dOk] at h
  | .ins _ _, v, k, h, _ => by cases k <;> simp [Tv.dOk] at h
  | .cell _, v, k, h, _ => by cases k <;> simp [Tv.dOk] at h
theorem dps_of : ∀ (ts : List Tv) (vs : List V) (k : Nat), Tv.dOks k ts = true → Dns G ν μ H ts vs → DpAll G.K H vs (Tv.pds ts)
  | [], vs, k, _, d => by
    simp only [Dns] at d
    subst d
    exact .nil
  | t :: ts, vs, k, h, d => by
    have h' : t.dOk k = true ∧ Tv.dOks k ts = true := by simpa [Tv.dOks] using h
    simp only [Dns] at d
    obtain ⟨v, vr, rfl, d1, d2⟩ := d
    exact .cons (dp_of t v k h'.1 d1) (dps_of ts vr k h'.2 d2)
end
end
mutual
theorem pd_shape : ∀ (t : Tv) (k : Nat), t.dOk k = true → t.pd.canLay0 = true ∧ t.pd.depth ≤ k
  | .non, k, _ => ⟨rfl, Nat.zero_le _⟩
  | .bl _, k, _ => ⟨rfl, Nat.zero_le _⟩
  | .int _, k, _ => ⟨rfl, Nat.zero_le _⟩
  | .str x, k, h => ⟨by cases k <;> simpa [Tv.dOk, Tv.pd] using h, Nat.zero_le _⟩
  | .tup ts, k, h => by
    cases k with
    | zero => simp [Tv.dOk] at h
    | succ k =>
      obtain ⟨h1, h2⟩ := pds_shape ts k (by simpa [Tv.dOk] using h)
      exact ⟨by simpa [Tv.pd, PyData.canLay0] using h1, by simp only [Tv.pd, PyData.depth]; omega⟩
  | .lst ts, k, h => by
    cases k with
    | zero => simp [Tv.dOk] at h
    | succ k =>
      obtain ⟨h1, h2⟩ := pds_shape ts k (by simpa [Tv.dOk] using h)
      exact ⟨by simpa [Tv.pd, PyData.canLay0] using h1, by simp only [Tv.pd, PyData.depth]; omega⟩
  | .dct, k, h => by cases k <;> simp [Tv.dOk] at h
  | .scr _, k, h => by cases k <;> simp [Tv.dOk] at h
  | .ins _ _, k, h => by cases k <;> simp [Tv.dOk] at h
  | .cell _, k, h => by cases k <;> simp [Tv.dOk] at h
theorem pds_shape : ∀ (ts : List Tv) (k : Nat), Tv.dOks k ts = true → PyData.canLayAll0 (Tv.pds ts) = true ∧ PyData.depthAll (Tv.pds ts) ≤ k
  | [], k, _ => ⟨rfl, Nat.zero_le _⟩
  | t :: ts, k, h => by
    have h' : t.dOk k = true ∧ Tv.dOks k ts = true := by simpa [Tv.dOks] using h
    obtain ⟨a1, a2⟩ := pd_shape t k h'.1
    obtain ⟨b1, b2⟩ := pds_shape ts k h'.2
    refine ⟨by simp [Tv.pds, PyData.canLayAll0, a1, b1], ?_⟩
    simp only [Tv.pds, PyData.depthAll]
    omega
end
theorem shaped_of {t : Tv} (h : t.dOk 16 = true) : SeqAt.shaped t.pd = true := by
  obtain ⟨h1, h2⟩ := pd_shape t 16 h
  unfold SeqAt.shaped
  rw [h1, decide_eq_true (show t.pd.depth ≤ 64 by omega)] <;> rfl
mutual
theorem pd_eqv : ∀ (a b : Tv) (k l : Nat), a.dOk k = true → b.dOk l = true → PyData.eqv a.pd b.pd = Tv.eqb a b
  | .non, b, k, l, _, h => by cases b <;> first | rfl | (cases l <;> simp [Tv.dOk] at h)
  | .bl _, b, k, l, _, h => by cases b <;> first | rfl | (cases l <;> simp [Tv.dOk] at h)
  | .int _, b, k, l, _, h => by cases b <;> first | rfl | (cases l <;> simp [Tv.dOk] at h)
  | .str _, b, k, l, _, h => by cases b <;> first | rfl | (cases l <;> simp [Tv.dOk] at h)
  | .tup ts, b, k, l, g, h => by
    cases k with
    | zero => simp [Tv.dOk] at g
    | succ k =>
      cases b with
      | tup us =>
        cases l with
        | zero => simp [Tv.dOk] at h
        | succ l =>
          simp only [Tv.pd, PyData.eqv, Tv.eqb]
          exact pds_eqv ts us k l (by simpa [Tv.dOk] using g) (by simpa [Tv.dOk] using h)
      | _ => first | rfl | (cases l <;> simp [Tv.dOk] at h)
  | .lst ts, b, k, l, g, h => by
    cases k with
    | zero => simp [Tv.dOk] at g
    | succ k =>
      cases b with
      | lst us =>
        cases l with
        | zero => simp [Tv.dOk] at h
        | succ l =>
          simp only [Tv.pd, PyData.eqv, Tv.eqb]
          exact pds_eqv ts us k l (by simpa [Tv.dOk] using g) (by simpa [Tv.dOk] using h)
      | _ => first | rfl | (cases l <;> simp [Tv.dOk] at h)
  | .dct, _, k, l, h, _ => by cases k <;> simp [Tv.dOk] at h
  | .scr _, _, k, l, h, _ => by cases k <;> simp [Tv.dOk] at h
  | .ins _ _, _, k, l, h, _ => by cases k <;> simp [Tv.dOk] at h
  | .cell _, _, k, l, h, _ => by cases k <;> simp [Tv.dOk] at h
theorem pds_eqv : ∀ (a b : List Tv) (k l : Nat), Tv.dOks k a = true → Tv.dOks l b = true → PyData.eqvAll (Tv.pds a) (Tv.pds b) = Tv.eqbs a b
  | [], b, k, l, _, h => by cases b <;> rfl
  | x :: r, b, k, l, g, h => by
    cases b with
    | nil => rfl
    | cons y s =>
      have g' : x.dOk k = true ∧ Tv.dOks k r = true := by simpa [Tv.dOks] using g
      have h' : y.dOk l = true ∧ Tv.dOks l s = true := by simpa [Tv.dOks] using h
      simp only [Tv.pds, PyData.eqvAll, Tv.eqbs]
      rw [pd_eqv x y k l g'.1 h'.1, pds_eqv r s k l g'.2 h'.2]
end
end Mp
namespace Mp
open PySem L2 PySem.Spec

/-- the def's names and scope, the level of its calls, what is wanted of errors -/
structure Gd (G : Wd) (n : Nat) (N : List Str) (sc : Scope) (W : WX) (X : Cx) : Prop where
  iw : InW G X
  nms : X.N = N
  sc : X.env.scope = sc
  nd : N.Nodup
  calm : X.calm = true
  room : Room n X.A
  tk : Takes X W
  sys : ∃ o, G.base.get? sysModules = some o
section
variable {G : Wd} {n : Nat} {N : List Str} {sc : Scope} {W : WX} {X : Cx} {Wc : Value → Option Addr → Hp → Prop}
theorem Gd.hu (g : Gd G n N sc W X) : X.A.units + 64 < cLine := g.room.units
def rP (G : Wd) (Wc : Value → Option Addr → Hp → Prop) (p : Pr) : List V → Hp → VK → Prop := fun vs H Q => ∃ ts S ν μ, StR G ν μ S H ∧ Dns G ν μ H ts vs ∧ Fin G Wc (DV G) ν μ H (opt (primV p S ts) S) Q
theorem dn_int {ν μ : List Addr} {H : Hp} {i : Int} : Dn G ν μ H (.int i) (.int i) := by simp only [Dn]
theorem dn_bl {ν μ : List Addr} {H : Hp} {b : Bool} : Dn G ν μ H (.bl b) (.bl b) := by simp only [Dn]
theorem dn_str {ν μ : List Addr} {H : Hp} {x : Str} : Dn G ν μ H (.str x) (.str x) := by simp only [Dn]
theorem dn_non {ν μ : List Addr} {H : Hp} : Dn G ν μ H .non .non := by simp only [Dn]
theorem seq_len {ν μ : List Addr} {H : Hp} {S : Sto} {t u : Tv} {v : V} (s : StR G ν μ S H) (d : Dn G ν μ H t v) (e : lenV S t = some u) : ∃ k : Nat, u = .int k ∧ LenV G.K v H k := by
  have gen : ∀ ts, seqOf S t = some ts → ∃ k : Nat, Tv.int ts.length = .int k ∧ LenV G.K v H k := fun ts h => by
    obtain ⟨a, vs, rfl, q, d⟩ := seq_of s d h
    refine ⟨ts.length, rfl, ?_⟩
    rcases q with q | q
    · exact .inl ⟨vs, q, d.length⟩
    · exact .inr ⟨vs, q, d.length⟩
  cases t with
  | str x =>
    simp only [lenV] at e
    split at e
    · rename_i h
      cases e
      simp only [Dn] at d
      subst d
      exact ⟨_, rfl, lim_le h, rfl⟩
    · cases e
  | _ =>
    simp only [lenV] at e
    obtain ⟨ts, h1, h2⟩ := Option.map_eq_some_iff.mp e
    obtain ⟨k, h3, h4⟩ := gen ts h1
    exact ⟨k, by rw [← h2, h3], h4⟩
theorem cr_len (g : Gd G n N sc W X) : CallR X (.builtin "len") (rP G Wc .len) := by
  refine CallR.imp call_len fun vs H Q ⟨ts, S, ν, μ, s, dd, h⟩ => ?_
  obtain ⟨t, e, h⟩ := h.opt
  rcases ts with _ | ⟨a, _ | ⟨b, r⟩⟩
  · cases e
  · obtain ⟨v, rfl, d⟩ := dd.un1
    obtain ⟨k, rfl, q⟩ := seq_len s d e
    exact ⟨v, k, rfl, by rw [g.iw.K]; exact q, h.val s dn_int⟩
  · cases e
theorem cr_tuple (g : Gd G n N sc W X) : CallR X (.type "tuple") (rP G Wc .tuple) := by
  refine CallR.imp call_tuple_of fun vs H Q ⟨ts, S, ν, μ, s, dd, h⟩ => ?_
  obtain ⟨t, e, h⟩ := h.opt
  rcases ts with _ | ⟨a, _ | ⟨b, r⟩⟩
  · cases e
  · obtain ⟨v, rfl, d⟩ := dd.un1
    have e' : (seqOf S a).map Tv.tup = some t := e
    obtain ⟨us, h1, rfl⟩ := Option.map_eq_some_iff.mp e'
    cases a with
    | tup ws =>
      simp only [seqOf, Option.some.injEq] at h1
      subst h1
      simp only [Dn] at d
      obtain ⟨p, xs, rfl, f, d⟩ := d
      refine ⟨p, xs, rfl, .inr ⟨by rw [g.iw.K]; exact f.sq, h.val s ?_⟩⟩
      simp only [Dn]
      exact ⟨p, xs, rfl, f, d⟩
    | lst ws =>
      obtain ⟨p, xs, rfl, q, d2⟩ := lst_of (ts := us) s d (by simpa [seqOf, lstOf] using h1)
      have hh : Fin G Wc (DV G) ν μ H (.ok (.tup us) S) Q := by assumption
      exact ⟨p, xs, rfl, .inl ⟨.inl (.inl q), fun l hl => hh.newT s hl d2⟩⟩
    | cell m =>
      obtain ⟨p, xs, rfl, q, d2⟩ := lst_of (ts := us) s d (by simpa [seqOf, lstOf] using h1)
      have hh : Fin G Wc (DV G) ν μ H (.ok (.tup us) S) Q := by assumption
      exact ⟨p, xs, rfl, .inl ⟨.inl (.inl q), fun l hl => hh.newT s hl d2⟩⟩
    | _ => simp [seqOf] at h1
  · cases e
theorem cr_int (g : Gd G n N sc W X) : CallR X (.type "int") (rP G Wc .int) := by
  refine CallR.imp call_int1 fun vs H Q ⟨ts, S, ν, μ, s, dd, h⟩ => ?_
  obtain ⟨t, e, h⟩ := h.opt
  rcases ts with _ | ⟨a, _ | ⟨b, r⟩⟩
  · cases e
  · obtain ⟨v, rfl, d⟩ := dd.un1
    cases a with
    | int i =>
      cases e
      simp only [Dn] at d
      subst d
      exact .inl ⟨i, rfl, h.val s dn_int⟩
    | bl k =>
      cases e
      simp only [Dn] at d
      subst d
      exact .inr ⟨k, rfl, h.val s dn_int⟩
    | _ => cases e
  · cases a <;> cases e
theorem cr_abs (g : Gd G n N sc W X) : CallR X (.builtin "abs") (rP G Wc .abs) := by
  refine CallR.imp call_abs fun vs H Q ⟨ts, S, ν, μ, s, dd, h⟩ => ?_
  obtain ⟨t, e, h⟩ := h.opt
  rcases ts with _ | ⟨a, _ | ⟨b, r⟩⟩
  · cases e
  · obtain ⟨v, rfl, d⟩ := dd.un1
    cases a with
    | int i =>
      cases e
      simp only [Dn] at d
      subst d
      exact ⟨i, rfl, h.val s dn_int⟩
    | _ => cases e
  · cases a <;> cases e
theorem cr_sum (g : Gd G n N sc W X) : CallR X (.builtin "sum") (rP G Wc .sum) := by
  refine CallR.imp (L2.CallR.or (L2.cr_sum g.calm) (cr_sumT g.calm)) fun vs H Q ⟨ts, S, ν, μ, s, dd, h⟩ => ?_
  obtain ⟨t, e, h⟩ := h.opt
  rcases ts with _ | ⟨a, _ | ⟨b, r⟩⟩
  · cases e
  · obtain ⟨v, rfl, d⟩ := dd.un1
    obtain ⟨us, h1, h2⟩ := Option.bind_eq_some_iff.mp (show (seqOf S a).bind _ = some t from e)
    obtain ⟨ns, h3, rfl⟩ := Option.map_eq_some_iff.mp h2
    obtain ⟨p, xs, rfl, q, d⟩ := seq_of s d h1
    obtain rfl := ints_of d h3
    rw [g.iw.K]
    rcases q with q | q
    · exact .inl ⟨p, ns, rfl, q, h.val s dn_int⟩
    · exact .inr ⟨p, ns, rfl, q, h.val s dn_int⟩
  · cases e
theorem cr_max (g : Gd G n N sc W X) : CallR X (.builtin "max") (rP G Wc .max) := by
  refine CallR.imp (cr_maxA g.calm g.hu) fun vs H Q ⟨ts, S, ν, μ, s, dd, h⟩ => ?_
  obtain ⟨t, e, h⟩ := h.opt
  rcases ts with _ | ⟨a, _ | ⟨b, r⟩⟩
  · cases e
  · obtain ⟨v, rfl, d⟩ := dd.un1
    obtain ⟨us, h1, h2⟩ := Option.bind_eq_some_iff.mp (show (seqOf S a).bind _ = some t from e)
    obtain ⟨p, xs, rfl, q, d⟩ := seq_of s d h1
    split at h2
    · rename_i m ms h3
      cases h2
      obtain rfl := ints_of d h3
      exact ⟨p, m :: ms, rfl, by rw [g.iw.K]; exact q, by simp, h.val s dn_int⟩
    · cases h2
  · cases e
theorem cr_min (g : Gd G n N sc W X) : CallR X (.builtin "min") (rP G Wc .min) := by
  refine CallR.imp (cr_minA g.calm g.hu) fun vs H Q ⟨ts, S, ν, μ, s, dd, h⟩ => ?_
  obtain ⟨t, e, h⟩ := h.opt
  rcases ts with _ | ⟨a, _ | ⟨b, r⟩⟩
  · cases e
  · obtain ⟨v, rfl, d⟩ := dd.un1
    obtain ⟨us, h1, h2⟩ := Option.bind_eq_some_iff.mp (show (seqOf S a).bind _ = some t from e)
    obtain ⟨p, xs, rfl, q, d⟩ := seq_of s d h1
    split at h2
    · rename_i m ms h3
      cases h2
      obtain rfl := ints_of d h3
      exact ⟨p, m :: ms, rfl, by rw [g.iw.K]; exact q, by simp, h.val s dn_int⟩
    · cases h2
  · cases e
theorem two_int {ν μ : List Addr} {H : Hp} {i j : Int} {vs : List V} (d : Dns G ν μ H [.int i, .int j] vs) : vs = [.int i, .int j] := by
  obtain ⟨v, w, rfl, d1, d2⟩ := d.un2
  simp only [Dn] at d1 d2
  rw [d1, d2]
theorem cr_max2 (g : Gd G n N sc W X) : CallR X (.builtin "max") (rP G Wc .max2) := by
  refine CallR.imp (call_max2 g.calm) fun vs H Q ⟨ts, S, ν, μ, s, dd, h⟩ => ?_
  obtain ⟨t, e, h⟩ := h.opt
  rcases ts with _ | ⟨a, _ | ⟨b, _ | ⟨c, r⟩⟩⟩
  · cases e
  · cases a <;> cases e
  · cases a with
    | int i =>
      cases b with
      | int j =>
        cases e
        exact ⟨i, j, two_int dd, h.val s dn_int⟩
      | _ => cases e
    | _ => cases b <;> cases e
  · cases a <;> cases b <;> cases e
theorem cr_min2 (g : Gd G n N sc W X) : CallR X (.builtin "min") (rP G Wc .min2) := by
  refine CallR.imp (call_min2 g.calm) fun vs H Q ⟨ts, S, ν, μ, s, dd, h⟩ => ?_
  obtain ⟨t, e, h⟩ := h.opt
  rcases ts with _ | ⟨a, _ | ⟨b, _ | ⟨c, r⟩⟩⟩
  · cases e
  · cases a <;> cases e
  · cases a with
    | int i =>
      cases b with
      | int j =>
        cases e
        exact ⟨i, j, two_int dd, h.val s dn_int⟩
      | _ => cases e
    | _ => cases b <;> cases e
  · cases a <;> cases b <;> cases e
theorem lst_only {ν μ : List Addr} {H : Hp} {S : Sto} {a : Tv} {v : V} {us : List Tv} (s : StR G ν μ S H) (d : Dn G ν μ H a v) (h : lstOf S a = some us) : ∃ p vs, v = .ref p ∧ SqL G.K H p vs ∧ Dns G ν μ H us vs := by
  obtain ⟨p, xs, e, q, d⟩ := lst_of s d h
  exact ⟨p, xs, e, .inl (.inl q), d⟩
theorem cr_all (g : Gd G n N sc W X) : CallR X (.builtin "all") (rP G Wc .all) := by
  refine CallR.imp (L2.cr_all g.calm) fun vs H Q ⟨ts, S, ν, μ, s, dd, h⟩ => ?_
  obtain ⟨t, e, h⟩ := h.opt
  rcases ts with _ | ⟨a, _ | ⟨b, r⟩⟩
  · cases e
  · obtain ⟨v, rfl, d⟩ := dd.un1
    obtain ⟨us, h1, h2⟩ := Option.bind_eq_some_iff.mp (show (lstOf S a).bind _ = some t from e)
    obtain ⟨ns, h3, rfl⟩ := Option.map_eq_some_iff.mp h2
    obtain ⟨p, xs, rfl, q, d⟩ := lst_only s d h1
    obtain rfl := bls_of d h3
    exact ⟨p, ns, rfl, by rw [g.iw.K]; exact q, h.val s dn_bl⟩
  · cases e
theorem cr_any (g : Gd G n N sc W X) : CallR X (.builtin "any") (rP G Wc .any) := by
  refine CallR.imp (L2.cr_any g.calm) fun vs H Q ⟨ts, S, ν, μ, s, dd, h⟩ => ?_
  obtain ⟨t, e, h⟩ := h.opt
  rcases ts with _ | ⟨a, _ | ⟨b, r⟩⟩
  · cases e
  · obtain ⟨v, rfl, d⟩ := dd.un1
    obtain ⟨us, h1, h2⟩ := Option.bind_eq_some_iff.mp (show (lstOf S a).bind _ = some t from e)
    obtain ⟨ns, h3, rfl⟩ := Option.map_eq_some_iff.mp h2
    obtain ⟨p, xs, rfl, q, d⟩ := lst_only s d h1
    obtain rfl := bls_of d h3
    exact ⟨p, ns, rfl, by rw [g.iw.K]; exact q, h.val s dn_bl⟩
  · cases e
theorem cr_str (g : Gd G n N sc W X) : CallR X (.type "str") (rP G Wc .str) := by
  refine CallR.imp call_str_int fun vs H Q ⟨ts, S, ν, μ, s, dd, h⟩ => ?_
  obtain ⟨t, e, h⟩ := h.opt
  rcases ts with _ | ⟨a, _ | ⟨b, r⟩⟩
  · cases e
  · obtain ⟨v, rfl, d⟩ := dd.un1
    cases a with
    | int i =>
      have e' : (if i.natAbs.log2 < 1920 then some (Tv.str (toString i)) else none) = some t := e
      split at e'
      · rename_i hl
        cases e'
        simp only [Dn] at d
        subst d
        exact ⟨i, rfl, hl, h.val s dn_str⟩
      · cases e'
    | _ => cases e
  · cases a <;> cases e
theorem shown_le {x : Tv} (h1 : x.rOk 16 = true) (h2 : x.bulk ≤ 20000) : x.pd.shown.length ≤ sizeLine := by
  obtain ⟨_, a, _, b⟩ := pd_ok x 16 h1
  have := PyData.shown_le_bulk 600 (by decide) x.pd a
  rw [b] at this
  rw [sizeLine_eq]
  have : 602 * x.bulk ≤ 602 * 20000 := Nat.mul_le_mul_left _ h2
  omega
theorem cr_repr (g : Gd G n N sc W X) : CallR X (.builtin "repr") (rP G Wc .repr) := by
  intro pins s σ H vs us Q I rv ⟨ts, S, ν, μ, st, dd, h⟩
  obtain ⟨t, e, h⟩ := h.opt
  rcases ts with _ | ⟨a, _ | ⟨b, r⟩⟩
  · cases e
  · obtain ⟨v, rfl, d⟩ := dd.un1
    obtain ⟨u, rfl, r1⟩ := vals1 rv
    have e' : reprV S a = some t := e
    simp only [reprV] at e'
    split at e'
    · rename_i x hx
      split at e'
      · rename_i hc
        cases e'
        obtain ⟨h1, h2⟩ := hc
        have rd : ∃ as, Reads s.heap u x.pd as ∧ sysModules ∉ as := by
          rcases thaw_dn st d hx with d' | ⟨us, p, xs, rfl, rfl, q, d'⟩
          · exact rd_of g.iw g.sys I x v u 16 h1 d' r1
          · cases r1
            obtain ⟨its, rv, ⟨o, k, ho, hc, _, hd⟩, _⟩ := I.list (show SqL X.K H p xs from .inl (.inl q))
            obtain ⟨as, q', z⟩ := rds_of g.iw g.sys I us xs its 15 (by simpa [Tv.rOk] using h1) d' rv
            refine ⟨p :: as, .list ho hc hd q', fun m => ?_⟩
            rcases List.mem_cons.mp m with m | m
            · exact not_sys g.iw g.sys I q m.symm
            · exact z m
        obtain ⟨as, rd, hn⟩ := rd
        have hz := shown_le h1 h2
        have hs := pd_shown x 16 h1
        obtain ⟨p1, _, p3, _⟩ := pd_ok x 16 h1
        have hu := g.hu
        have fin : ∀ (tk : Nat) (t' : Tok) (h' : Heap), (∀ b o, s.heap.get? b = some o → h'.get? b = some o) → EP X pins σ Q (.str x.pd.shown t') { s with heap := h', toks := tk } := by
          intro tk t' h' hk
          refine ⟨.str x.pd.shown, H, I.kept hk, ⟨t', rfl⟩, h.val st ?_⟩
          rw [hs]
          exact dn_str
        have fin0 : ∀ (tk : Nat) (t' : Tok), EP X pins σ Q (.str x.pd.shown t') { s with toks := tk } := fun tk t' => fin tk t' s.heap fun _ _ z => z
        cases u with
        | ref p => exact repr_of_reads' rd p1 (fun _ => hn) g.iw.gd (by omega) (fun _ _ z => z) (fun h' u tk hk => fin tk u h' hk) hz
        | none =>
          generalize x.pd = y at *
          cases rd
          exact PySem.P.repr_of_none (fin0 _ _)
        | bool b =>
          generalize x.pd = y at *
          cases rd
          exact PySem.P.repr_of_bool (fin0 _ _)
        | int i k =>
          generalize x.pd = y at *
          cases rd
          exact PySem.P.repr_of_int (by simpa [PyData.showable] using p1) (fin0 _ _)
        | str z k =>
          generalize x.pd = y at *
          cases rd
          exact PySem.P.repr_of_str (fin0 _ _) hz
        | _ =>
          generalize x.pd = y at *
          cases rd
      · cases e'
    · cases e'
  · cases e
end
end Mp
namespace Mp
open PySem L2 PySem.Spec
section
variable {G : Wd} {n : Nat} {N : List Str} {sc : Scope} {W : WX} {X : Cx} {Wc : Value → Option Addr → Hp → Prop}
def Bo.py : Bo → Operator
  | .add => .Add
  | .sub => .Sub
  | .mul => .Mult
  | .fdiv => .FloorDiv
  | .mod => .Mod
  | .pow => .Pow
def Co.py : Co → CmpOp
  | .eq => .Eq
  | .ne => .NotEq
  | .lt => .Lt
  | .le => .LtE
  | .gt => .Gt
  | .ge => .GtE
  | .isin => .In
  | .notin => .NotIn
def rB (G : Wd) (Wc : Value → Option Addr → Hp → Prop) (o : Bo) : R2 := fun x y H Q => ∃ t u S ν μ, StR G ν μ S H ∧ Dn G ν μ H t x ∧ Dn G ν μ H u y ∧ Fin G Wc (DV G) ν μ H (opt (binV o S t u) S) Q
theorem OpR.imp {f : Value → Value → Sem Value} {r r' : R2} (h : OpR X f r) (i : ∀ x y H Q, r' x y H Q → r x y H Q) : OpR X f r' :=
  fun pins s σ H x y v u Q I rx ry q => h pins s σ H x y v u Q I rx ry (i x y H Q q)
/-- which of several rules serves is seen at the values -/
theorem OpR.any {f : Value → Value → Sem Value} {r' : R2} (i : ∀ x y H Q, r' x y H Q → ∃ r : R2, OpR X f r ∧ r x y H Q) : OpR X f r' :=
  fun pins s σ H x y v u Q I rx ry q => by
    obtain ⟨r, h, z⟩ := i x y H Q q
    exact h pins s σ H x y v u Q I rx ry z
/-- a * 1 of a tuple is the tuple -/
theorem catL {ν μ : List Addr} {H : Hp} {S : Sto} {t u : Tv} {x y : V} {a b : List Tv} {Q : VK} (s : StR G ν μ S H) (d1 : Dn G ν μ H t x) (d2 : Dn G ν μ H u y) (e1 : lstOf S t = some a) (e2 : lstOf S u = some b) (hl : a.length + b.length ≤ lim)
    (h : Fin G Wc (DV G) ν μ H (.ok (.lst (a ++ b)) S) Q) : rCat x y H Q := by
  obtain ⟨p, vs, rfl, f1, k1⟩ := lst_of s d1 e1
  obtain ⟨q, ws, rfl, f2, k2⟩ := lst_of s d2 e2
  exact ⟨p, q, vs, ws, rfl, rfl, f1, f2, by rw [← k1.length, ← k2.length]; exact lim_le hl, fun l hl => h.newL s hl (k1.append k2)⟩
theorem op_B_add (g : Gd G n N sc W X) : OpR X (binaryOp .Add) (rB G Wc .add) := by
  refine OpR.any fun x y H Q ⟨t, u, S, ν, μ, s, d1, d2, h⟩ => ?_
  obtain ⟨z, e, h⟩ := h.opt
  have e' : addV S t u = some z := e
  cases t with
  | int i =>
    cases u with
    | int j =>
      cases e'
      simp only [Dn] at d1 d2
      subst d1 d2
      exact ⟨_, op_add, i, j, rfl, rfl, h.val s dn_int⟩
    | _ => cases e'
  | str a =>
    cases u with
    | str b =>
      simp only [addV] at e'
      split at e'
      · rename_i hl
        cases e'
        simp only [Dn] at d1 d2
        subst d1 d2
        exact ⟨_, op_add_str, a, b, rfl, rfl, lim_le hl, h.val s dn_str⟩
      · cases e'
    | _ => cases e'
  | tup a =>
    cases u with
    | tup b =>
      simp only [addV] at e'
      split at e'
      · rename_i hl
        cases e'
        simp only [Dn] at d1 d2
        obtain ⟨p, vs, rfl, f1, k1⟩ := d1
        obtain ⟨q, ws, rfl, f2, k2⟩ := d2
        refine ⟨_, op_catA, p, q, vs, ws, rfl, rfl, by rw [g.iw.K]; exact f1.sq, by rw [g.iw.K]; exact f2.sq, by rw [← k1.length, ← k2.length]; exact lim_le hl, fun e => ?_, fun _ e => ?_, fun _ _ l hl => h.newT s hl (k1.append k2)⟩
        · have ea : a = [] := List.eq_nil_of_length_eq_zero (by rw [k1.length, e]; rfl)
          subst ea
          refine h.val s ?_
          simp only [Dn, List.nil_append]
          exact ⟨q, ws, rfl, f2, k2⟩
        · have eb : b = [] := List.eq_nil_of_length_eq_zero (by rw [k2.length, e]; rfl)
          subst eb
          refine h.val s ?_
          simp only [Dn, List.append_nil]
          exact ⟨p, vs, rfl, f1, k1⟩
      · cases e'
    | _ => cases e'
  | lst a =>
    refine ⟨_, op_cat, ?_⟩
    cases u with
    | lst b =>
      simp only [addV] at e'
      split at e'
      · rename_i hl
        cases e'
        exact catL s d1 d2 rfl rfl hl h
      · cases e'
    | cell m =>
      simp only [addV] at e'
      split at e'
      · rename_i b hb
        split at e'
        · rename_i hl
          cases e'
          exact catL s d1 d2 rfl hb hl h
        · cases e'
      · cases e'
    | _ => simp [addV, lstOf] at e'
  | cell m =>
    refine ⟨_, op_cat, ?_⟩
    simp only [addV] at e'
    split at e'
    · rename_i a b ha hb
      split at e'
      · rename_i hl
        cases e'
        exact catL s d1 d2 ha hb hl h
      · cases e'
    · cases e'
  | _ => cases u <;> cases e'
theorem mul_fit {i j : Int} (h : i.natAbs.log2 + j.natAbs.log2 < 1000000) : CMulW i j := h
theorem rep1 {α : Type} (xs : List α) : rep 1 xs = xs := by simp [rep]
theorem Dns.rep {ν μ : List Addr} {H : Hp} {ts : List Tv} {vs : List V} (d : Dns G ν μ H ts vs) : ∀ k : Nat, Dns G ν μ H (rep k ts) (List.replicate k vs).flatten
  | 0 => by simp [Mp.rep, Dns]
  | k + 1 => by
    show Dns G ν μ H (List.replicate (k + 1) ts).flatten (List.replicate (k + 1) vs).flatten
    rw [List.replicate_succ, List.flatten_cons, List.replicate_succ, List.flatten_cons]
    exact d.append (Dns.rep d k)
theorem op_B_mul (g : Gd G n N sc W X) (one : OpR X (binaryOp .Mult) (fun x y H Q => ∃ a xs, x = .ref a ∧ y = .int 1 ∧ SqT X.K H a xs ∧ xs ≠ [] ∧ Q (.ref a) H)) : OpR X (binaryOp .Mult) (rB G Wc .mul) := by
  refine OpR.any fun x y H Q ⟨t, u, S, ν, μ, s, d1, d2, h⟩ => ?_
  obtain ⟨z, e, h⟩ := h.opt
  have e' : mulV t u = some z := e
  cases u with
  | int j =>
    simp only [Dn] at d2
    subst d2
    cases t with
    | int i =>
      simp only [mulV] at e'
      split at e'
      · rename_i hl
        cases e'
        simp only [Dn] at d1
        subst d1
        exact ⟨_, op_mulW, i, j, rfl, rfl, hl, h.val s dn_int⟩
      · cases e'
    | tup a =>
      simp only [mulV] at e'
      split at e'
      · rename_i hl
        cases e'
        obtain ⟨l1, l2, l3, l4⟩ := hl
        simp only [Dn] at d1
        obtain ⟨p, vs, rfl, f1, k1⟩ := d1
        have hv : vs ≠ [] := fun e => l4 (List.eq_nil_of_length_eq_zero (by rw [k1.length, e]; rfl))
        by_cases hj : j = 1
        · subst hj
          refine ⟨_, one, p, vs, rfl, rfl, by rw [g.iw.K]; exact f1.sq, hv, h.val s ?_⟩
          simp only [Dn]
          refine ⟨p, vs, rfl, f1, ?_⟩
          rw [show Int.toNat 1 = 1 from rfl, rep1]
          exact k1
        · exact ⟨_, op_repT, p, j, vs, rfl, rfl, by rw [g.iw.K]; exact f1.sq, hv, by omega, by omega, by rw [← k1.length]; exact l3, fun l hl => h.newT s hl (k1.rep _)⟩
      · cases e'
    | lst a =>
      simp only [mulV] at e'
      split at e'
      · rename_i hl
        cases e'
        obtain ⟨l1, l2, l3⟩ := hl
        simp only [Dn] at d1
        obtain ⟨p, vs, rfl, f1, k1⟩ := d1
        refine ⟨_, op_rep, p, j, vs, rfl, rfl, f1.2, by omega, by omega, ?_, fun l hl => h.newL s hl (k1.rep _)⟩
        rw [← k1.length, sizeLine_eq]
        have := Nat.mul_le_mul l3 (show j.toNat ≤ 1000 by omega)
        omega
      · cases e'
    | _ => cases e'
  | _ => cases t <;> cases e'
theorem op_B_sub : OpR X (binaryOp .Sub) (rB G Wc .sub) := by
  refine OpR.imp op_sub fun x y H Q ⟨t, u, S, ν, μ, s, d1, d2, h⟩ => ?_
  obtain ⟨z, e, h⟩ := h.opt
  simp only [binV] at e
  split at e
  · rename_i i j
    cases e
    simp only [Dn] at d1 d2
    exact ⟨i, j, d1, d2, h.val s dn_int⟩
  · cases e
theorem op_B_fdiv : OpR X (binaryOp .FloorDiv) (rB G Wc .fdiv) := by
  refine OpR.imp op_fdivW fun x y H Q ⟨t, u, S, ν, μ, s, d1, d2, h⟩ => ?_
  obtain ⟨z, e, h⟩ := h.opt
  simp only [binV] at e
  split at e
  · rename_i i j
    split at e
    · rename_i hc
      cases e
      simp only [Dn] at d1 d2
      exact ⟨i, j, d1, d2, hc, h.val s dn_int⟩
    · cases e
  · cases e
theorem op_B_mod : OpR X (binaryOp .Mod) (rB G Wc .mod) := by
  refine OpR.imp op_mod fun x y H Q ⟨t, u, S, ν, μ, s, d1, d2, h⟩ => ?_
  obtain ⟨z, e, h⟩ := h.opt
  simp only [binV] at e
  split at e
  · rename_i i j
    split at e
    · rename_i hc
      cases e
      simp only [Dn] at d1 d2
      exact ⟨i, j, d1, d2, hc, h.val s dn_int⟩
    · cases e
  · cases e
theorem op_B_pow : OpR X (binaryOp .Pow) (rB G Wc .pow) := by
  refine OpR.imp op_pow fun x y H Q ⟨t, u, S, ν, μ, s, d1, d2, h⟩ => ?_
  obtain ⟨z, e, h⟩ := h.opt
  simp only [binV] at e
  split at e
  · rename_i i j
    split at e
    · rename_i hc
      cases e
      simp only [Dn] at d1 d2
      exact ⟨i, j, d1, d2, hc, h.val s dn_int⟩
    · cases e
  · cases e

/-! ### comparisons -/
def rC (G : Wd) (Wc : Value → Option Addr → Hp → Prop) (o : Co) : R2 := fun x y H Q => ∃ t u S ν μ, StR G ν μ S H ∧ Dn G ν μ H t x ∧ Dn G ν μ H u y ∧ Fin G Wc DB ν μ H (opt (cmpV o S t u) S) (fun b H' => Q (.bl b) H')
theorem Fin.bool {ν μ : List Addr} {H : Hp} {S : Sto} {b : Bool} {Q : Bool → Hp → Prop} (h : Fin G Wc DB ν μ H (.ok b S) Q) (s : StR G ν μ S H) : Q b H := Fin.ok h s rfl
theorem dp_thaw {ν μ : List Addr} {H : Hp} {S : Sto} {t x : Tv} {v : V} (s : StR G ν μ S H) (d : Dn G ν μ H t v) (e : thaw S t = some x) (h : x.dOk 16 = true) : Dp G.K H v x.pd := by
  rcases thaw_dn s d e with d' | ⟨us, p, xs, rfl, rfl, q, d'⟩
  · exact dp_of x v 16 h d'
  · exact .lst (.inl (.inl q)) (dps_of us xs 15 (by simpa [Tv.dOk] using h) d')
theorem eq_parts {ν μ : List Addr} {H : Hp} {S : Sto} {t u : Tv} {x y : V} {b : Bool} (s : StR G ν μ S H) (d1 : Dn G ν μ H t x) (d2 : Dn G ν μ H u y) (e : eqS0 S t u = some b) :
    ∃ d e, Dp G.K H x d ∧ Dp G.K H y e ∧ SeqAt.shaped d = true ∧ SeqAt.shaped e = true ∧ PyData.eqv d e = b := by
  simp only [eqS0] at e
  split at e
  · rename_i a c ha hc
    split at e
    · rename_i hk
      cases e
      exact ⟨a.pd, c.pd, dp_thaw s d1 ha hk.1, dp_thaw s d2 hc hk.2, shaped_of hk.1, shaped_of hk.2, pd_eqv a c 16 16 hk.1 hk.2⟩
    · cases e
  · cases e
theorem OpR.or {f : Value → Value → Sem Value} {r q : R2} (h : OpR X f r) (k : OpR X f q) : OpR X f (fun x y H Q => r x y H Q ∨ q x y H Q) := by
  intro pins s σ H x y v u Q I rx ry z
  rcases z with z | z
  · exact h pins s σ H x y v u Q I rx ry z
  · exact k pins s σ H x y v u Q I rx ry z
/-- two texts, or others -/
theorem eqS_way {S : Sto} {t u : Tv} {b : Bool} (e : eqS S t u = some b) : (∃ x y, t = .str x ∧ u = .str y ∧ b = (x == y)) ∨ eqS0 S t u = some b := by
  unfold eqS at e
  split at e
  · cases e
    exact .inl ⟨_, _, rfl, rfl, rfl⟩
  · exact .inr e
theorem op_C_eq (g : Gd G n N sc W X) : OpR X (compareOp .Eq) (rC G Wc .eq) := by
  refine OpR.imp (OpR.or op_eq (op_eqD g.hu)) fun x y H Q ⟨t, u, S, ν, μ, s, d1, d2, h⟩ => ?_
  obtain ⟨z, e, h⟩ := h.opt
  rcases eqS_way e with ⟨a, c, rfl, rfl, rfl⟩ | e
  · simp only [Dn] at d1 d2
    subst d1 d2
    refine .inl ⟨rfl, ?_⟩
    rw [dec_str]
    exact h.bool s
  · obtain ⟨d, e', h1, h2, h3, h4, rfl⟩ := eq_parts s d1 d2 e
    rw [← g.iw.K] at h1 h2
    exact .inr ⟨d, e', h1, h2, h3, h4, h.bool s⟩
theorem op_C_ne (g : Gd G n N sc W X) : OpR X (compareOp .NotEq) (rC G Wc .ne) := by
  refine OpR.imp (OpR.or op_ne (op_neD g.hu)) fun x y H Q ⟨t, u, S, ν, μ, s, d1, d2, h⟩ => ?_
  obtain ⟨z, e, h⟩ := h.opt
  obtain ⟨b, e1, rfl⟩ := Option.map_eq_some_iff.mp (show (eqS S t u).map (!·) = some z from e)
  rcases eqS_way e1 with ⟨a, c, rfl, rfl, rfl⟩ | e1
  · simp only [Dn] at d1 d2
    subst d1 d2
    refine .inl ⟨rfl, ?_⟩
    rw [dec_str]
    exact h.bool s
  · obtain ⟨d, e', h1, h2, h3, h4, rfl⟩ := eq_parts s d1 d2 e1
    rw [← g.iw.K] at h1 h2
    exact .inr ⟨d, e', h1, h2, h3, h4, h.bool s⟩
theorem op_C_lt : OpR X (compareOp .Lt) (rC G Wc .lt) := by
  refine OpR.imp op_lt fun x y H Q ⟨t, u, S, ν, μ, s, d1, d2, h⟩ => ?_
  obtain ⟨z, e, h⟩ := h.opt
  simp only [cmpV] at e
  split at e
  · rename_i i j
    cases e
    simp only [Dn] at d1 d2
    exact ⟨i, j, d1, d2, h.bool s⟩
  · cases e
theorem op_C_le : OpR X (compareOp .LtE) (rC G Wc .le) := by
  refine OpR.imp op_le fun x y H Q ⟨t, u, S, ν, μ, s, d1, d2, h⟩ => ?_
  obtain ⟨z, e, h⟩ := h.opt
  simp only [cmpV] at e
  split at e
  · rename_i i j
    cases e
    simp only [Dn] at d1 d2
    exact ⟨i, j, d1, d2, h.bool s⟩
  · cases e
theorem op_C_gt : OpR X (compareOp .Gt) (rC G Wc .gt) := by
  refine OpR.imp op_gt fun x y H Q ⟨t, u, S, ν, μ, s, d1, d2, h⟩ => ?_
  obtain ⟨z, e, h⟩ := h.opt
  simp only [cmpV] at e
  split at e
  · rename_i i j
    cases e
    simp only [Dn] at d1 d2
    exact ⟨i, j, d1, d2, h.bool s⟩
  · cases e
theorem op_C_ge : OpR X (compareOp .GtE) (rC G Wc .ge) := by
  refine OpR.imp op_ge fun x y H Q ⟨t, u, S, ν, μ, s, d1, d2, h⟩ => ?_
  obtain ⟨z, e, h⟩ := h.opt
  simp only [cmpV] at e
  split at e
  · rename_i i j
    cases e
    simp only [Dn] at d1 d2
    exact ⟨i, j, d1, d2, h.bool s⟩
  · cases e
theorem flat_v {ν μ : List Addr} {H : Hp} {t : Tv} {v : V} (d : Dn G ν μ H t v) (h : flatT t = true) : flatV v = true ∧ ∀ u w, Dn G ν μ H u w → flatT u = true → L2.eqV w v = Tv.eqb u t := by
  cases t <;> first | cases h | skip
  all_goals
    simp only [Dn] at d
    subst d
    refine ⟨rfl, fun u w d2 h2 => ?_⟩
    cases u <;> first | cases h2 | skip
    all_goals
      simp only [Dn] at d2
      subst d2
      first | rfl | simp [L2.eqV, Tv.eqb]
theorem flat_all {ν μ : List Addr} {H : Hp} {t : Tv} {v : V} (d : Dn G ν μ H t v) (h : flatT t = true) : ∀ {ts : List Tv} {vs : List V}, Dns G ν μ H ts vs → ts.all flatT = true → vs.all flatV = true ∧ (vs.any fun y => L2.eqV y v) = ts.any fun y => Tv.eqb y t
  | [], vs, k, _ => by
    simp only [Dns] at k
    subst k
    exact ⟨rfl, rfl⟩
  | u :: r, vs, k, z => by
    simp only [Dns] at k
    obtain ⟨w, vr, rfl, k1, k2⟩ := k
    have z' : flatT u = true ∧ r.all flatT = true := by simpa using z
    obtain ⟨a1, a2⟩ := flat_all d h k2 z'.2
    refine ⟨?_, ?_⟩
    · rw [List.all_cons, (flat_v k1 z'.1).1, a1] <;> rfl
    · rw [List.any_cons, List.any_cons, a2, (flat_v d h).2 u w k1 z'.1]
theorem any_eqv {x : Tv} (h : x.dOk 16 = true) : ∀ {ys : List Tv}, Tv.dOks 16 ys = true → ((Tv.pds ys).any fun z => PyData.eqv z x.pd) = ys.any fun y => Tv.eqb y x
  | [], _ => rfl
  | y :: r, k => by
    have k' : y.dOk 16 = true ∧ Tv.dOks 16 r = true := by simpa [Tv.dOks] using k
    simp only [Tv.pds, List.any_cons]
    rw [any_eqv h k'.2, pd_eqv y x 16 16 k'.1 h]
theorem shaped_list {ys : List Tv} (k : Tv.dOks 16 ys = true) : SeqAt.shaped (.list (Tv.pds ys)) = true := by
  obtain ⟨h1, h2⟩ := pds_shape ys 16 k
  unfold SeqAt.shaped
  have e1 : PyData.canLay0 (.list (Tv.pds ys)) = true := by simpa [PyData.canLay0] using h1
  have e2 : PyData.depth (.list (Tv.pds ys)) ≤ 64 := by simp only [PyData.depth]; omega
  rw [e1, decide_eq_true e2] <;> rfl
theorem one_sign {x : Str} (h : x.cps.size = 1) : x = ⟨#[x.cps.getD 0 0]⟩ := by
  obtain ⟨⟨l⟩⟩ := x
  match l, h with
  | [c], _ => rfl
/-- in: the three ways -/
theorem in_parts {ν μ : List Addr} {H : Hp} {S : Sto} {t u : Tv} {x y : V} {b : Bool} (s : StR G ν μ S H) (d1 : Dn G ν μ H t x) (d2 : Dn G ν μ H u y) (e : inS S t u = some b) :
    (∃ (c : Nat) (z : Str), x = .str ⟨#[c]⟩ ∧ y = .str z ∧ decide (c ∈ z.cps.toList) = b) ∨
    (∃ p xs, y = .ref p ∧ (SqL G.K H p xs ∨ SqT G.K H p xs) ∧ flatV x = true ∧ xs.all flatV = true ∧ L2.inV x xs = b) ∨
    (∃ d ds, Dp G.K H x d ∧ Dp G.K H y (.list ds) ∧ SeqAt.shaped d = true ∧ SeqAt.shaped (.list ds) = true ∧ (ds.any fun z => PyData.eqv z d) = b) := by
  have lists : inL (thaw S t) (lstOf S u) = some b → (∃ d ds, Dp G.K H x d ∧ Dp G.K H y (.list ds) ∧ SeqAt.shaped d = true ∧ SeqAt.shaped (.list ds) = true ∧ (ds.any fun z => PyData.eqv z d) = b) := fun e => by
    cases ha : thaw S t with
    | none => rw [ha] at e; cases e
    | some a =>
      cases hy : lstOf S u with
      | none => rw [ha, hy] at e; cases e
      | some ys =>
        rw [ha, hy] at e
        simp only [inL] at e
        split at e
        · rename_i hk
          cases e
          obtain ⟨p, vs, rfl, f2, k2⟩ := lst_of s d2 hy
          exact ⟨a.pd, Tv.pds ys, dp_thaw s d1 ha hk.1, .lst (.inl (.inl f2)) (dps_of ys vs 16 hk.2 k2), shaped_of hk.1, shaped_list hk.2, any_eqv hk.1 hk.2⟩
        · cases e
  cases u with
  | str z =>
    simp only [inS] at e
    split at e
    · rename_i a
      split at e
      · rename_i hs
        cases e
        simp only [Dn] at d1 d2
        subst d1 d2
        exact .inl ⟨_, z, congrArg V.str (one_sign hs), rfl, rfl⟩
      · cases e
    · cases e
  | tup ys =>
    simp only [inS] at e
    split at e
    · rename_i hf
      cases e
      simp only [Dn] at d2
      obtain ⟨p, vs, rfl, f2, k2⟩ := d2
      obtain ⟨a1, a2⟩ := flat_all d1 hf.1 k2 hf.2
      exact .inr (.inl ⟨p, vs, rfl, .inr f2.sq, (flat_v d1 hf.1).1, a1, a2⟩)
    · cases e
  | _ => exact .inr (.inr (lists e))
theorem op_C_in (g : Gd G n N sc W X) (hu : X.A.units + 65 < cLine) : OpR X (compareOp .In) (rC G Wc .isin) := by
  refine OpR.any fun x y H Q ⟨t, u, S, ν, μ, s, d1, d2, h⟩ => ?_
  obtain ⟨z, e, h⟩ := h.opt
  rcases in_parts s d1 d2 e with ⟨c, w, e1, e2, rfl⟩ | ⟨p, xs, e1, e2, e3, e4, rfl⟩ | ⟨d, ds, e1, e2, e3, e4, rfl⟩
  · exact ⟨_, op_in_sign, c, w, e1, e2, h.bool s⟩
  · exact ⟨_, op_in_seq, p, xs, e1, by rw [g.iw.K]; exact e2, e3, e4, h.bool s⟩
  · exact ⟨_, op_inD hu, d, ds, by rw [g.iw.K]; exact e1, by rw [g.iw.K]; exact e2, e3, e4, h.bool s⟩
theorem op_C_notin (g : Gd G n N sc W X) (hu : X.A.units + 65 < cLine) : OpR X (compareOp .NotIn) (rC G Wc .notin) := by
  refine OpR.any fun x y H Q ⟨t, u, S, ν, μ, s, d1, d2, h⟩ => ?_
  obtain ⟨z, e, h⟩ := h.opt
  obtain ⟨b, e', rfl⟩ := Option.map_eq_some_iff.mp (show (inS S t u).map (!·) = some z from e)
  rcases in_parts s d1 d2 e' with ⟨c, w, e1, e2, rfl⟩ | ⟨p, xs, e1, e2, e3, e4, rfl⟩ | ⟨d, ds, e1, e2, e3, e4, rfl⟩
  · exact ⟨_, op_notIn_sign, c, w, e1, e2, h.bool s⟩
  · exact ⟨_, op_notIn_seq, p, xs, e1, by rw [g.iw.K]; exact e2, e3, e4, h.bool s⟩
  · exact ⟨_, op_notInD hu, d, ds, by rw [g.iw.K]; exact e1, by rw [g.iw.K]; exact e2, e3, e4, h.bool s⟩
end
end Mp
namespace Mp
open PySem L2 PySem.Spec
section
variable {G : Wd} {n : Nat} {N : List Str} {sc : Scope} {W : WX} {X : Cx} {a b c e : Expr} {pos : Pos} {f h k : Env → M Tv} {ft ht kt : Env → M Bool}
abbrev Wk (W : WX) (σ : L2.St) : Value → Option Addr → Hp → Prop := fun c d H' => W c d σ H'
/-- pieces in a row -/
theorem tE.seq1 {σ : L2.St} {H : Hp} {Q : VK} {g : Tv → M Tv} {P : VK} (z : tE G W (fun env => bnd (f env) g) σ H Q)
    (q : ∀ (env : Env) (S : Sto) (ν μ : List Addr) (v : V) (H' : Hp) (t : Tv), Rl G env S ν μ σ H' → Dn G ν μ H' t v → Fin G (Wk W σ) (DV G) ν μ H' (g t S) Q → P v H') : tE G W f σ H P := by
  obtain ⟨env, S, ν, μ, r, z⟩ := z
  exact ⟨env, S, ν, μ, r, (Fin.bnd (D := DV G) z).mono fun v H' ⟨t, S1, ν1, μ1, a, d, y⟩ => q env S1 ν1 μ1 v H' t (r.af a) d y⟩
theorem s_var {i : Nat} {x : Str} (g : Gd G n N sc W X) (hN : N[i]? = some x) (hv : Vis sc x) (hd : (x == ("__debug__" : Str)) = false) (hc : (x == ("__classdict__" : Str)) = false) :
    PE X (.Name x pos) (tE G W (varM i)) := by
  refine PE.imp (pe_var (i := i) (by rw [g.nms]; exact hN) (by rw [g.sc]; exact hv) hd hc) fun σ H Q ⟨env, S, ν, μ, r, z⟩ => ?_
  unfold varM at z
  split at z
  · rename_i t ht
    obtain ⟨v, e1, d⟩ := r.en.at' i t ht
    exact ⟨v, e1, z.val r.st d⟩
  · exact z.elim
theorem s_c {t : Tv} {v : V} (hp : PE X e (tC v)) (d : ∀ ν μ H, Dn G ν μ H t v) : PE X e (tE G W fun _ => ret t) :=
  PE.imp hp fun σ H Q ⟨env, S, ν, μ, r, z⟩ => z.val r.st (d ν μ H)
theorem s_op2 {o : Operator} {r : R2} {g : Tv → Tv → M Tv} (ho : OpR X (binaryOp o) r) (ha : PE X a (tE G W f)) (hb : PE X b (tE G W h))
    (q : ∀ (σ : L2.St) (S : Sto) (ν μ : List Addr) (v w : V) (H' : Hp) (t u : Tv) (Q : VK), StR G ν μ S H' → Dn G ν μ H' t v → Dn G ν μ H' u w → Fin G (Wk W σ) (DV G) ν μ H' (g t u S) Q → r v w H' Q) :
    PE X (.BinOp a o b pos) (tE G W fun env => bnd (f env) fun x => bnd (h env) fun y => g x y) :=
  PE.imp (pe_op ho ha hb) fun σ H Q z => z.two fun S ν μ v w H' t u s d1 d2 y => q σ S ν μ v w H' t u Q s d1 d2 y
theorem s_bin {o : Bo} (g : Gd G n N sc W X) (one : OpR X (binaryOp .Mult) (fun x y H Q => ∃ a xs, x = .ref a ∧ y = .int 1 ∧ SqT X.K H a xs ∧ xs ≠ [] ∧ Q (.ref a) H)) (ha : PE X a (tE G W f)) (hb : PE X b (tE G W h)) :
    PE X (.BinOp a o.py b pos) (tE G W fun env => bnd (f env) fun x => bnd (h env) fun y S => opt (binV o S x y) S) := by
  have go : ∀ σ : L2.St, OpR X (binaryOp o.py) (rB G (Wk W σ) o) := fun σ => by
    cases o with
    | add => exact op_B_add g
    | sub => exact op_B_sub
    | mul => exact op_B_mul g one
    | fdiv => exact op_B_fdiv
    | mod => exact op_B_mod
    | pow => exact op_B_pow
  refine s_op2 (r := fun x y H Q => ∃ σ, rB G (Wk W σ) o x y H Q) (fun pins s σ H x y v u Q I rx ry ⟨σ', q⟩ => go σ' pins s σ H x y v u Q I rx ry q) ha hb ?_
  exact fun σ S ν μ v w H' t u Q s d1 d2 y => ⟨σ, t, u, S, ν, μ, s, d1, d2, y⟩
theorem s_neg (ha : PE X a (tE G W f)) : PE X (.UnaryOp .USub a pos) (tE G W fun env => bnd (f env) fun x => match x with
    | .int i => ret (.int (-i))
    | _ => bad) :=
  PE.imp (pe_un un_neg ha) fun σ H Q z => z.one fun S ν μ v H' t s d y => by
    cases t <;> first | exact y.elim | skip
    simp only [Dn] at d
    subst d
    exact ⟨_, rfl, y.val s dn_int⟩
/-! ### comparisons -/
theorem go_cmp (g : Gd G n N sc W X) (o : Co) (σ : L2.St) : OpR X (compareOp o.py) (rC G (Wk W σ) o) := by
  have hu : X.A.units + 65 < cLine := by have := g.room.un; omega
  cases o with
  | eq => exact op_C_eq g
  | ne => exact op_C_ne g
  | lt => exact op_C_lt
  | le => exact op_C_le
  | gt => exact op_C_gt
  | ge => exact op_C_ge
  | isin => exact op_C_in g hu
  | notin => exact op_C_notin g hu
/-- the comparison's rule, whatever is wanted of errors -/
def rCs (G : Wd) (o : Co) : R2 := fun x y H Q => ∃ Wc, rC G Wc o x y H Q
theorem go_cmps (g : Gd G n N sc W X) (o : Co) : OpR X (compareOp o.py) (rCs G o) := fun pins s σ H x y v u Q I rx ry ⟨Wc, q⟩ => by
  obtain ⟨t, u', S, ν, μ, st, d1, d2, z⟩ := q
  obtain ⟨b, e, z⟩ := z.opt
  refine go_cmp g o σ pins s σ H x y v u Q I rx ry ⟨t, u', S, ν, μ, st, d1, d2, ?_⟩
  rw [e]
  exact z
def notSet : Expr → Bool
  | .Set _ _ _ => false
  | _ => true
theorem noSet {op : CmpOp} (h : notSet b = true) : behindInMarks op b = false := by
  cases b <;> first | rfl | cases h
theorem lastNo {op op' : CmpOp} (h : notSet c = true) : lastMarks [op, op'] [b, c] = false := noSet h
abbrev cmpM (o : Co) (f h : Env → M Tv) : Env → M Bool := fun env => bnd (f env) fun x => bnd (h env) fun y S => opt (cmpV o S x y) S
theorem bnd_assoc {α β γ : Type} (m : M α) (f : α → M β) (g : β → M γ) : bnd (bnd m f) g = bnd m fun x => bnd (f x) g := by
  funext S
  simp only [bnd]
  cases m S <;> rfl
theorem fin_b {ν μ : List Addr} {H : Hp} {σ : L2.St} {r : Rs Bool} {Q : VK} (z : Fin G (Wk W σ) (DV G) ν μ H (r.bnd fun b => ret (.bl b)) Q) : Fin G (Wk W σ) DB ν μ H r fun b H' => Q (.bl b) H' := by
  cases r with
  | ok b S' =>
    intro v H' ν' μ' a e
    have e' : b = v := e
    subst e'
    exact z (.bl b) H' ν' μ' a dn_bl
  | ex c fs S' => exact z
  | bad => exact z
theorem tE.two' {σ : L2.St} {H : Hp} {Q : VK} {g : Tv → Tv → M Bool} {P : V → VK} (z : tE G W (boolV fun env => bnd (f env) fun x => bnd (h env) fun y => g x y) σ H Q)
    (q : ∀ (S : Sto) (ν μ : List Addr) (v w : V) (H' : Hp) (t u : Tv), StR G ν μ S H' → Dn G ν μ H' t v → Dn G ν μ H' u w → Fin G (Wk W σ) DB ν μ H' (g t u S) (fun b H2 => Q (.bl b) H2) → P v w H') :
    tE G W f σ H fun v H1 => tE G W h σ H1 fun w H2 => P v w H2 := by
  have e : (boolV fun env => bnd (f env) fun x => bnd (h env) fun y => g x y) = fun env => bnd (f env) fun x => bnd (h env) fun y => bnd (g x y) fun b => ret (.bl b) := by
    funext env
    simp only [boolV, bnd_assoc]
  rw [e] at z
  exact z.two fun S ν μ v w H' t u s d1 d2 y => q S ν μ v w H' t u s d1 d2 (fin_b y)
theorem tT.two {σ : L2.St} {H : Hp} {Q : Bool → Hp → Prop} {g : Tv → Tv → M Bool} {P : V → VK} (z : tT G W (fun env => bnd (f env) fun x => bnd (h env) fun y => g x y) σ H Q)
    (q : ∀ (S : Sto) (ν μ : List Addr) (v w : V) (H' : Hp) (t u : Tv), StR G ν μ S H' → Dn G ν μ H' t v → Dn G ν μ H' u w → Fin G (Wk W σ) DB ν μ H' (g t u S) Q → P v w H') :
    tE G W f σ H fun v H1 => tE G W h σ H1 fun w H2 => P v w H2 := by
  obtain ⟨env, S, ν, μ, r, z⟩ := z
  refine ⟨env, S, ν, μ, r, (Fin.bnd (D := DV G) z).mono fun v H1 ⟨t, S1, ν1, μ1, a, d, z⟩ => ?_⟩
  exact ⟨env, S1, ν1, μ1, r.af a, (Fin.bnd (D := DV G) z).mono fun w H2 ⟨u, S2, ν2, μ2, a2, d2, z2⟩ => q S2 ν2 μ2 v w H2 t u a2.st (d.af a2) d2 z2⟩
theorem s_cmp {o : Co} (g : Gd G n N sc W X) (ha : PE X a (tE G W f)) (hb : PE X b (tE G W h)) (hs : notSet b = true) :
    PE X (.Compare a [o.py] [b] pos) (tE G W (boolV (cmpM o f h))) ∧ PT X (.Compare a [o.py] [b] pos) (tT G W (cmpM o f h)) := by
  constructor
  · refine PE.imp (pe_cmpR (go_cmps g o) ha hb (noSet hs)) fun σ H Q z => ?_
    exact z.two' fun S ν μ v w H' t u s d1 d2 y => ⟨_, t, u, S, ν, μ, s, d1, d2, y⟩
  · refine PT.imp (pt_cmpR (go_cmps g o) ha hb (noSet hs)) fun σ H Q z => ?_
    exact z.two fun S ν μ v w H' t u s d1 d2 y => ⟨Wk W σ, t, u, S, ν, μ, s, d1, d2, y.mono fun b H2 q => ⟨b, rfl, q⟩⟩
abbrev chainM (o p : Co) (f h k : Env → M Tv) : Env → M Bool := fun env => bnd (f env) fun x => bnd (h env) fun y => bnd (fun S => opt (cmpV o S x y) S) fun b =>
  if b then bnd (k env) fun z S => opt (cmpV p S y z) S else ret false
theorem s_chainT {o p : Co} (g : Gd G n N sc W X) (ha : PE X a (tE G W f)) (hb : PE X b (tE G W h)) (hc : PE X c (tE G W k)) (hs : notSet c = true) (σ : L2.St) (H : Hp) (Q : Bool → Hp → Prop)
    (z : tT G W (chainM o p f h k) σ H Q) : tChain (rCs G o) (rCs G p) (tE G W f) (tE G W h) (tE G W k) σ H fun x H' => ∃ b, x = .bl b ∧ Q b H' := by
  obtain ⟨env, S, ν, μ, r, z⟩ := z
  refine ⟨env, S, ν, μ, r, (Fin.bnd (D := DV G) z).mono fun v H1 ⟨t, S1, ν1, μ1, a1, d1, z⟩ => ?_⟩
  refine ⟨env, S1, ν1, μ1, r.af a1, (Fin.bnd (D := DV G) z).mono fun w H2 ⟨u, S2, ν2, μ2, a2, d2, z⟩ => ?_⟩
  refine ⟨Wk W σ, t, u, S2, ν2, μ2, a2.st, d1.af a2, d2, (Fin.bnd (D := DB) z).mono fun b H3 ⟨b', S3, ν3, μ3, a3, e, z⟩ => ?_⟩
  subst e
  refine ⟨b', rfl, ?_⟩
  cases b' with
  | false =>
    exact iteF ⟨false, rfl, Fin.bool z a3.st⟩
  | true =>
    refine iteT ⟨env, S3, ν3, μ3, ((r.af a1).af a2).af a3, (Fin.bnd (D := DV G) z).mono fun w' H4 ⟨u', S4, ν4, μ4, a4, d4, z⟩ => ?_⟩
    exact ⟨Wk W σ, u, u', S4, ν4, μ4, a4.st, (d2.af a3).af a4, d4, z.mono fun b H2 q => ⟨b, rfl, q⟩⟩
theorem tChain.mono {r r' : R2} {ta tb tc : TE} {σ : L2.St} {H : Hp} {Q Q' : VK} (ma : ∀ σ H Q Q', (∀ v H, Q v H → Q' v H) → ta σ H Q → ta σ H Q') (mb : ∀ σ H Q Q', (∀ v H, Q v H → Q' v H) → tb σ H Q → tb σ H Q')
    (mc : ∀ σ H Q Q', (∀ v H, Q v H → Q' v H) → tc σ H Q → tc σ H Q') (mr : ∀ x y H Q Q', (∀ v H, Q v H → Q' v H) → r x y H Q → r x y H Q') (mr' : ∀ x y H Q Q', (∀ v H, Q v H → Q' v H) → r' x y H Q → r' x y H Q')
    (h : ∀ v H, Q v H → Q' v H) (z : tChain r r' ta tb tc σ H Q) : tChain r r' ta tb tc σ H Q' :=
  ma _ _ _ _ (fun v H1 z => mb _ _ _ _ (fun w H2 z => mr _ _ _ _ _ (fun x H3 ⟨b, e, z⟩ => ⟨b, e, by
    cases b with
    | false => exact iteF (h _ _ (by simpa using z))
    | true => exact iteT (mc _ _ _ _ (fun u H4 z => mr' _ _ _ _ _ h z) (by simpa using z))⟩) z) z) z
theorem rCs.mono {o : Co} {x y : V} {H : Hp} {Q Q' : VK} (h : ∀ v H, Q v H → Q' v H) : rCs G o x y H Q → rCs G o x y H Q' := fun ⟨Wc, t, u, S, ν, μ, s, d1, d2, z⟩ => ⟨Wc, t, u, S, ν, μ, s, d1, d2, z.mono fun b H2 q => h _ _ q⟩
theorem s_chain {o p : Co} (g : Gd G n N sc W X) (ha : PE X a (tE G W f)) (hb : PE X b (tE G W h)) (hc : PE X c (tE G W k)) (hs : notSet c = true) :
    PE X (.Compare a [o.py, p.py] [b, c] pos) (tE G W (boolV (chainM o p f h k))) ∧ PT X (.Compare a [o.py, p.py] [b, c] pos) (tT G W (chainM o p f h k)) := by
  constructor
  · refine PE.imp (pe_chain (go_cmps g o) (go_cmps g p) ha hb hc (lastNo hs)) fun σ H Q ⟨env, S, ν, μ, r, z⟩ => ?_
    have z' : tT G W (chainM o p f h k) σ H fun b H' => Q (.bl b) H' := ⟨env, S, ν, μ, r, fin_b z⟩
    refine tChain.mono (fun _ _ _ _ h z => z.mono h) (fun _ _ _ _ h z => z.mono h) (fun _ _ _ _ h z => z.mono h) (fun _ _ _ _ _ h => rCs.mono h) (fun _ _ _ _ _ h => rCs.mono h) ?_ (s_chainT g ha hb hc hs σ H _ z')
    rintro v H ⟨b, rfl, q⟩
    exact q
  · refine PT.imp (pt_chain (go_cmps g o) (go_cmps g p) ha hb hc (lastNo hs)) fun σ H Q z => ?_
    exact s_chainT g ha hb hc hs σ H Q z
end
end Mp
namespace Mp
open PySem L2 PySem.Spec
section
variable {G : Wd} {n : Nat} {N : List Str} {sc : Scope} {W : WX} {X : Cx} {a b c e : Expr} {es : List Expr} {pos : Pos} {f h k : Env → M Tv} {ft ht kt : Env → M Bool} {fs hs : Env → M (List Tv)}
/-! ### truth -/
theorem tru_of {ν μ : List Addr} {H : Hp} {S : Sto} {t : Tv} {v : V} {b : Bool} (s : StR G ν μ S H) (d : Dn G ν μ H t v) (e : truth S t = some b) : TruV G.K v H b := by
  have gen : ∀ ts, lstOf S t = some ts → TruV G.K v H (!ts.isEmpty) := fun ts h => by
    obtain ⟨p, vs, rfl, f, k⟩ := lst_of s d h
    refine .inl ⟨vs, .inl (.inl f), ?_⟩
    cases ts <;> cases vs <;> first | rfl | (have := k.length; simp at this)
  cases t with
  | non =>
    cases e
    simp only [Dn] at d
    subst d
    exact rfl
  | bl k =>
    cases e
    simp only [Dn] at d
    subst d
    exact rfl
  | int k =>
    cases e
    simp only [Dn] at d
    subst d
    exact rfl
  | tup ts =>
    cases e
    simp only [Dn] at d
    obtain ⟨p, vs, rfl, f, k⟩ := d
    refine .inr (.inl ⟨vs, f.sq, ?_⟩)
    cases ts <;> cases vs <;> first | rfl | (have := k.length; simp at this)
  | lst ts =>
    cases e
    exact gen ts rfl
  | cell m =>
    obtain ⟨ts, h1, rfl⟩ := Option.map_eq_some_iff.mp (show (lstOf S (.cell m)).map _ = some b from e)
    exact gen ts h1
  | _ => simp [truth, lstOf] at e
def plainT : Expr → Bool
  | .UnaryOp .Not _ _ => false
  | .BoolOp _ _ _ => false
  | .IfExp _ _ _ _ => false
  | .Compare _ _ _ _ => false
  | _ => true
theorem plain_is {env : PySem.Env} (h : plainT e = true) (whole : Sem Value) : isTrue e env whole = (do let v ← whole; standAt e.pos; holding [v] (truthy v)) := by
  cases e with
  | UnaryOp op x p => cases op <;> first | rfl | cases h
  | _ => first | rfl | cases h
theorem s_truth (g : Gd G n N sc W X) (hp : plainT e = true) (ha : PE X e (tE G W f)) : PT X e (tT G W fun env => bnd (f env) truthM) := by
  refine PT.imp (pt_truth ha (plain_is hp)) fun σ H Q ⟨env, S, ν, μ, r, z⟩ => ?_
  refine ⟨env, S, ν, μ, r, (Fin.bnd (D := DV G) z).mono fun v H1 ⟨t, S1, ν1, μ1, a1, d1, z⟩ => ?_⟩
  obtain ⟨b, eb, z⟩ := z.opt
  exact ⟨b, by rw [g.iw.K]; exact tru_of a1.st d1 eb, z.bool a1.st⟩
/-! ### x is None, True, False -/
def conOf : Option Bool → Const
  | none => .none
  | some b => .bool b
theorem is_none {ν μ : List Addr} {H : Hp} {t : Tv} {v : V} {b : Bool} (d : Dn G ν μ H t v) (e : isCV none t = some b) : decide (v = .non) = b := by
  cases t <;> simp only [isCV, Option.some.injEq] at e <;> subst e <;> simp only [Dn] at d
  · subst d; rfl
  · subst d; rfl
  · subst d; rfl
  · subst d; rfl
  · obtain ⟨_, _, rfl, _⟩ := d; rfl
  · obtain ⟨_, _, rfl, _⟩ := d; rfl
  · obtain ⟨_, rfl, _⟩ := d; rfl
  · obtain ⟨_, _, rfl, _⟩ := d; rfl
  · obtain ⟨_, _, _, _, rfl, _⟩ := d; rfl
  · obtain ⟨_, rfl, _⟩ := d; rfl
abbrev isM (ng : Bool) (cc : Option Bool) (f : Env → M Tv) : Env → M Bool := fun env => bnd (f env) fun x S => opt ((isCV cc x).map fun k => if ng then !k else k) S
/-- a comparison whose answer is a bool, as a value and as a test -/
theorem s_isG {op : CmpOp} {j : Nat} {p2 : Pos} {cc : Option Bool} {ng : Bool} {r : R2} {kv : V} (ho : OpR X (compareOp op) r) (ha : PE X a (tE G W f)) (hk : PE X (.Constant (conOf cc) j p2) (tC kv))
    (q : ∀ (ν μ : List Addr) (H : Hp) (t : Tv) (v : V) (k : Bool) (Q : VK), Dn G ν μ H t v → isCV cc t = some k → Q (.bl (if ng then !k else k)) H → r v kv H Q) :
    PE X (.Compare a [op] [.Constant (conOf cc) j p2] pos) (tE G W (boolV (isM ng cc f))) ∧ PT X (.Compare a [op] [.Constant (conOf cc) j p2] pos) (tT G W (isM ng cc f)) := by
  have key : ∀ (σ : L2.St) (H : Hp) (Q : Bool → Hp → Prop), tT G W (isM ng cc f) σ H Q → tOp r (tE G W f) (tC kv) σ H fun x H' => ∃ b, x = .bl b ∧ Q b H' := by
    intro σ H Q ⟨env, S, ν, μ, rl, z⟩
    refine ⟨env, S, ν, μ, rl, (Fin.bnd (D := DV G) z).mono fun v H1 ⟨t, S1, ν1, μ1, a1, d1, z⟩ => ?_⟩
    obtain ⟨k', ek, z⟩ := z.opt
    obtain ⟨k, e1, rfl⟩ := Option.map_eq_some_iff.mp ek
    exact q ν1 μ1 H1 t v k _ d1 e1 ⟨_, rfl, z.bool a1.st⟩
  have nb : behindInMarks op (.Constant (conOf cc) j p2) = false := rfl
  constructor
  · refine PE.imp (PE.imp (pe_cmpR ho ha hk nb) fun σ H Q z => z) fun σ H Q ⟨env, S, ν, μ, r, z⟩ => ?_
    have z' : tT G W (isM ng cc f) σ H fun b H' => Q (.bl b) H' := ⟨env, S, ν, μ, r, fin_b z⟩
    obtain ⟨env, S, ν, μ, rl, z⟩ := z'
    refine ⟨env, S, ν, μ, rl, (Fin.bnd (D := DV G) z).mono fun v H1 ⟨t, S1, ν1, μ1, a1, d1, z⟩ => ?_⟩
    obtain ⟨k', ek, z⟩ := z.opt
    obtain ⟨k, e1, rfl⟩ := Option.map_eq_some_iff.mp ek
    exact q ν1 μ1 H1 t v k _ d1 e1 (z.bool a1.st)
  · exact PT.imp (pt_cmpR ho ha hk nb) fun σ H Q z => key σ H Q z
theorem s_isC {ng : Bool} {cc : Option Bool} {j : Nat} {p2 : Pos} (ha : PE X a (tE G W f)) :
    PE X (.Compare a [if ng then .IsNot else .Is] [.Constant (conOf cc) j p2] pos) (tE G W (boolV (isM ng cc f))) ∧ PT X (.Compare a [if ng then .IsNot else .Is] [.Constant (conOf cc) j p2] pos) (tT G W (isM ng cc f)) := by
  cases cc with
  | none =>
    cases ng with
    | true => exact s_isG (cc := none) (ng := true) (op := .IsNot) op_notN ha pe_non fun ν μ H t v k Q d e q => ⟨rfl, by rw [is_none d e]; exact q⟩
    | false => exact s_isG (cc := none) (ng := false) (op := .Is) op_isN ha pe_non fun ν μ H t v k Q d e q => ⟨rfl, by rw [is_none d e]; exact q⟩
  | some b =>
    have bl : ∀ {ν μ : List Addr} {H : Hp} {t : Tv} {v : V} {k : Bool}, Dn G ν μ H t v → isCV (some b) t = some k → ∃ z, v = .bl z ∧ decide (z = b) = k := fun {ν μ H t v k} d e => by
      cases t <;> simp only [isCV, Option.some.injEq] at e <;> first | cases e | skip
      simp only [Dn] at d
      exact ⟨_, d, rfl⟩
    cases ng with
    | true =>
      refine s_isG (cc := some b) (ng := true) (op := .IsNot) op_notBl ha pe_bl ?_
      intro ν μ H t v k Q d e q
      obtain ⟨z, rfl, rfl⟩ := bl d e
      exact ⟨z, b, rfl, rfl, q⟩
    | false =>
      refine s_isG (cc := some b) (ng := false) (op := .Is) op_isBl ha pe_bl ?_
      intro ν μ H t v k Q d e q
      obtain ⟨z, rfl, rfl⟩ := bl d e
      exact ⟨z, b, rfl, rfl, q⟩
/-! ### and, or, not, if else -/
theorem s_bop {an : Bool} {rest : List Expr} (g : Gd G n N sc W X) (ha : PE X a (tE G W f)) (hb : PE X (.BoolOp (if an then .And else .Or) (b :: rest) pos) (tE G W h)) :
    PE X (.BoolOp (if an then .And else .Or) (a :: b :: rest) pos) (tE G W fun env => bnd (f env) fun x => bnd (truthM x) fun k => if k = an then h env else ret x) := by
  have key : ∀ (σ : L2.St) (H : Hp) (Q : VK), tE G W (fun env => bnd (f env) fun x => bnd (truthM x) fun k => if k = an then h env else ret x) σ H Q →
      tE G W f σ H fun x H1 => ∃ k, TruV X.K x H1 k ∧ if k = an then tE G W h σ H1 Q else Q x H1 := by
    intro σ H Q ⟨env, S, ν, μ, r, z⟩
    refine ⟨env, S, ν, μ, r, (Fin.bnd (D := DV G) z).mono fun v H1 ⟨t, S1, ν1, μ1, a1, d1, z⟩ => ?_⟩
    cases eb : truth S1 t with
    | none =>
      simp only [bnd, truthM, eb, opt, Rs.bnd] at z
      exact z.elim
    | some b =>
      simp only [bnd, truthM, eb, opt, Rs.bnd] at z
      refine ⟨b, by rw [g.iw.K]; exact tru_of a1.st d1 eb, ?_⟩
      split
      · rename_i hk
        rw [if_pos hk] at z
        exact ⟨env, S1, ν1, μ1, r.af a1, z⟩
      · rename_i hk
        rw [if_neg hk] at z
        exact z.val a1.st d1
  cases an with
  | true => exact PE.imp (pe_andT ha hb) key
  | false =>
    refine PE.imp (pe_orT ha hb) fun σ H Q z => (key σ H Q z).mono fun v H' ⟨k, h1, h2⟩ => ⟨k, h1, ?_⟩
    cases k with
    | true => exact iteT (by simpa using h2)
    | false => exact iteF (by simpa using h2)
theorem s_bop1 {op : BoolOp} (ha : PE X a (tE G W f)) : PE X (.BoolOp op [a] pos) (tE G W f) := pe_one ha
theorem s_bopT {an : Bool} {rest : List Expr} (ha : PT X a (tT G W ft)) (hb : PW X (.BoolOp (if an then .And else .Or) (b :: rest) pos) (tT G W ht)) :
    PW X (.BoolOp (if an then .And else .Or) (a :: b :: rest) pos) (tT G W fun env => bnd (ft env) fun k => if k = an then ht env else ret k) := by
  have key : ∀ (σ : L2.St) (H : Hp) (Q : Bool → Hp → Prop), tT G W (fun env => bnd (ft env) fun k => if k = an then ht env else ret k) σ H Q → tT G W ft σ H fun k H1 => if k = an then tT G W ht σ H1 Q else Q k H1 := by
    intro σ H Q ⟨env, S, ν, μ, r, z⟩
    refine ⟨env, S, ν, μ, r, (Fin.bnd (D := DB) z).mono fun v H1 ⟨t, S1, ν1, μ1, a1, d1, z⟩ => ?_⟩
    subst d1
    split
    · rename_i hk
      rw [if_pos hk] at z
      exact ⟨env, S1, ν1, μ1, r.af a1, z⟩
    · rename_i hk
      rw [if_neg hk] at z
      exact Fin.bool z a1.st
  have mono : ∀ (σ : L2.St) (H : Hp) (Q Q' : Bool → Hp → Prop), (∀ b H', Q b H' → Q' b H') → tT G W ft σ H Q → tT G W ft σ H Q' := fun σ H Q Q' q ⟨env, S, ν, μ, r, z⟩ => ⟨env, S, ν, μ, r, z.mono q⟩
  cases an with
  | true =>
    have q := pw_and ha hb
    refine ⟨fun wh pins s σ H Q I z => q.run wh pins s σ H Q I (mono _ _ _ _ (fun b H' z => ?_) (key σ H Q z))⟩
    cases b with
    | true => exact iteT (by simpa using z)
    | false => exact iteF (by simpa using z)
  | false =>
    have q := pw_or ha hb
    refine ⟨fun wh pins s σ H Q I z => q.run wh pins s σ H Q I (mono _ _ _ _ (fun b H' z => ?_) (key σ H Q z))⟩
    cases b with
    | true => exact iteT (by simpa using z)
    | false => exact iteF (by simpa using z)
theorem bnd_ret (an : Bool) (m : M Bool) : (bnd m fun k => if k = an then ret an else ret k) = m := by
  funext S
  simp only [bnd]
  cases m S with
  | ok k S' =>
    simp only [Rs.bnd]
    split
    · rename_i hk; subst hk; rfl
    · rfl
  | _ => rfl
theorem s_bopT1 {an : Bool} (ha : PT X a (tT G W ft)) : PW X (.BoolOp (if an then .And else .Or) [a] pos) (tT G W fun env => bnd (ft env) fun k => if k = an then ret an else ret k) := by
  have e : (fun env => bnd (ft env) fun k => if k = an then ret an else ret k) = ft := by funext env; exact bnd_ret an (ft env)
  rw [e]
  cases an with
  | true => exact pw_and1 ha
  | false => exact pw_or1 ha
theorem s_nt (g : Gd G n N sc W X) (ha : PE X a (tE G W f)) (hb : PT X a (tT G W ft)) :
    PE X (.UnaryOp .Not a pos) (tE G W fun env => bnd (f env) fun x => bnd (truthM x) fun b => ret (.bl (!b))) ∧ PT X (.UnaryOp .Not a pos) (tT G W fun env => bnd (ft env) fun b => ret (!b)) := by
  constructor
  · refine PE.imp (pe_notT ha) fun σ H Q ⟨env, S, ν, μ, r, z⟩ => ?_
    refine ⟨env, S, ν, μ, r, (Fin.bnd (D := DV G) z).mono fun v H1 ⟨t, S1, ν1, μ1, a1, d1, z⟩ => ?_⟩
    cases eb : truth S1 t with
    | none =>
      simp only [bnd, truthM, eb, opt, Rs.bnd] at z
      exact z.elim
    | some b =>
      simp only [bnd, truthM, eb, opt, Rs.bnd] at z
      exact ⟨b, by rw [g.iw.K]; exact tru_of a1.st d1 eb, z.val a1.st dn_bl⟩
  · refine PT.imp (pt_not hb) fun σ H Q ⟨env, S, ν, μ, r, z⟩ => ?_
    refine ⟨env, S, ν, μ, r, (Fin.bnd (D := DB) z).mono fun v H1 ⟨t, S1, ν1, μ1, a1, d1, z⟩ => ?_⟩
    subst d1
    exact Fin.bool z a1.st
theorem pt_ifExp {t : TT} {ta tb : TT} (hc : PT X c t) (ha : PT X a ta) (hb : PT X b tb) : PT X (.IfExp c a b pos) (fun σ H Q => t σ H fun k H1 => if k = true then ta σ H1 Q else tb σ H1 Q) := by
  refine ⟨fun pins s σ H Q I z => ?_⟩
  show wpAny _ _ (isTrue c X.env (eval c X.env) >>= fun k => if k = true then isTrue a X.env (eval a X.env) else isTrue b X.env (eval b X.env)) _ _ s
  refine wpAny_bind (thn (hc.run pins s σ H _ I z) fun k s1 ⟨H1, I1, q1⟩ => ?_)
  cases k with
  | true => exact ha.run pins s1 σ H1 Q I1 q1
  | false => exact hb.run pins s1 σ H1 Q I1 q1
theorem s_ite (hc : PT X c (tT G W ft)) (ha : PE X a (tE G W f)) (hb : PE X b (tE G W h)) : PE X (.IfExp c a b pos) (tE G W fun env => bnd (ft env) fun k => if k then f env else h env) := by
  refine PE.imp (pe_ifExp hc ha hb) fun σ H Q ⟨env, S, ν, μ, r, z⟩ => ?_
  refine ⟨env, S, ν, μ, r, (Fin.bnd (D := DB) z).mono fun v H1 ⟨t, S1, ν1, μ1, a1, d1, z⟩ => ?_⟩
  subst d1
  cases t with
  | true => exact iteT ⟨env, S1, ν1, μ1, r.af a1, z⟩
  | false => exact iteF ⟨env, S1, ν1, μ1, r.af a1, z⟩
theorem s_iteT (hc : PT X c (tT G W ft)) (ha : PT X a (tT G W ht)) (hb : PT X b (tT G W kt)) : PT X (.IfExp c a b pos) (tT G W fun env => bnd (ft env) fun k => if k then ht env else kt env) := by
  refine PT.imp (pt_ifExp hc ha hb) fun σ H Q ⟨env, S, ν, μ, r, z⟩ => ?_
  refine ⟨env, S, ν, μ, r, (Fin.bnd (D := DB) z).mono fun v H1 ⟨t, S1, ν1, μ1, a1, d1, z⟩ => ?_⟩
  subst d1
  cases t with
  | true => exact iteT ⟨env, S1, ν1, μ1, r.af a1, z⟩
  | false => exact iteF ⟨env, S1, ν1, μ1, r.af a1, z⟩
/-! ### argument lists, displays -/
theorem s_nil : PA X [] (tA G W fun _ => ret []) := PA.imp pa_nil fun σ H Q ⟨env, S, ν, μ, r, z⟩ => Fin.ok z r.st (by simp only [DVs, Dns])
theorem s_cons (ns : notStar e = true) (ha : PE X e (tE G W f)) (hr : PA X es (tA G W fs)) : PA X (e :: es) (tA G W fun env => bnd (f env) fun x => bnd (fs env) fun xs => ret (x :: xs)) := by
  refine PA.imp (pa_cons ha hr (star_cons ns es)) fun σ H Q ⟨env, S, ν, μ, r, z⟩ => ?_
  refine ⟨env, S, ν, μ, r, (Fin.bnd (D := DV G) z).mono fun v H1 ⟨t, S1, ν1, μ1, a1, d1, z⟩ => ?_⟩
  refine ⟨env, S1, ν1, μ1, r.af a1, (Fin.bnd (D := DVs G) z).mono fun vs H2 ⟨ts, S2, ν2, μ2, a2, d2, z⟩ => ?_⟩
  refine Fin.ok z a2.st ?_
  simp only [DVs, Dns]
  exact ⟨v, vs, rfl, d1.af a2, d2⟩
theorem s_tup {x1 : Nat} (hr : PA X es (tA G W fs)) : PE X (.Tuple es x1 pos) (tE G W fun env => bnd (fs env) fun xs => if xs.length ≤ lim then ret (.tup xs) else bad) := by
  refine PE.imp (pe_tup hr) fun σ H Q ⟨env, S, ν, μ, r, z⟩ => ?_
  refine ⟨env, S, ν, μ, r, (Fin.bnd (D := DVs G) z).mono fun vs H1 ⟨ts, S1, ν1, μ1, a1, d1, z⟩ => ?_⟩
  split at z
  · rename_i hl
    exact ⟨by rw [← d1.length]; exact lim_le hl, fun p hp => z.newT a1.st hp d1⟩
  · exact z.elim
/-- a new list: its items, where it is -/
def tL (G : Wd) (W : WX) (f : Env → M (List Tv)) : TE := fun σ H Q => ∃ env S ν μ, Rl G env S ν μ σ H ∧ Fin G (Wk W σ) (fun ν' μ' H' (ts : List Tv) (v : V) => ∃ p vs, v = .ref p ∧ p ∈ ν' ∧ p ∉ μ' ∧ p ∉ ν ∧ H p = none ∧ H' p = some (.lst vs) ∧ Dns G ν' μ' H' ts vs) ν μ H (f env S) Q
theorem StR.less (s : StR G ν μ S H) (h1 : ∀ a ∈ ν', a ∈ ν) (h2 : ∀ a ∈ μ, a ∈ ν') : StR G ν' μ S H :=
  ⟨s.len, s.nd, h2, fun a q => s.trk a (h1 a q), fun n o e => let ⟨a, e1, r⟩ := s.ob n o e; ⟨a, e1, r.less h1⟩⟩
end
end Mp
namespace Mp
open PySem L2 PySem.Spec
section
variable {G : Wd} {n : Nat} {N : List Str} {sc : Scope} {W : WX} {X : Cx} {a b c e : Expr} {es : List Expr} {pos p p1 p2 p3 : Pos} {f h k : Env → M Tv} {ft ht kt : Env → M Bool} {fs hs : Env → M (List Tv)}
  {ν μ ν' μ' : List Addr} {H H' : Hp} {S S' : Sto}
/-! ### subscripts -/
def plainIx : Expr → Bool
  | .Slice _ _ _ _ => false
  | _ => true
theorem plainIx_is (h : plainIx b = true) : PlainIx b := by
  intro o i
  cases b <;> first | rfl | cases h
theorem Dns.at {ts : List Tv} {vs : List V} {j : Int} {t : Tv} (d : Dns G ν μ H ts vs) (e : atI ts j = some t) : ∃ v, atI vs j = some v ∧ Dn G ν μ H t v := by
  unfold atI at e ⊢
  cases z : ixN ts.length j with
  | none => rw [z] at e; cases e
  | some m =>
    rw [z] at e
    rw [← d.length, z]
    exact d.get e
def rXs (G : Wd) : R2 := fun x y H Q => ∃ Wc t u S ν μ, StR G ν μ S H ∧ Dn G ν μ H t x ∧ Dn G ν μ H u y ∧ Fin G Wc (DV G) ν μ H (opt (ixV S t u) S) Q
theorem ix_all (iw : InW G X) : IxR X (rXs G) := by
  intro value slice pins s σ H x y v u Q I rx ry ⟨Wc, t, u', S, ν, μ, st, d1, d2, z⟩ hs
  obtain ⟨r, e, z1⟩ := z.opt
  cases u' with
  | int j =>
    simp only [Dn] at d2
    subst d2
    have gen : ∀ ts, seqOf S t = some ts → atI ts j = some r → rIx X.K x (.int j) H Q := fun ts h1 h2 => by
      obtain ⟨q, vs, rfl, sq, d⟩ := seq_of st d1 h1
      obtain ⟨w, e1, d'⟩ := d.at h2
      rw [iw.K]
      rcases sq with sq | sq
      · exact .inl ⟨q, vs, j, w, rfl, rfl, sq, e1, z1.val st d'⟩
      · exact .inr (.inl ⟨q, vs, j, w, rfl, rfl, sq, e1, z1.val st d'⟩)
    refine ix_seq value slice pins s σ H x (.int j) v u Q I rx ry ?_ hs
    cases t with
    | str w =>
      simp only [ixV] at e
      split at e
      · rename_i hl
        obtain ⟨c, h1, rfl⟩ := Option.map_eq_some_iff.mp e
        simp only [Dn] at d1
        subst d1
        exact .inr (.inr ⟨w, j, c, rfl, rfl, lim_le hl, h1, z1.val st dn_str⟩)
      · cases e
    | _ =>
      simp only [ixV] at e
      obtain ⟨ts, h1, h2⟩ := Option.bind_eq_some_iff.mp e
      exact gen ts h1 h2
  | _ => simp [ixV] at e
theorem s_ix (g : Gd G n N sc W X) (ha : PE X a (tE G W f)) (hb : PE X b (tE G W h)) (hp : plainIx b = true) :
    PE X (.Subscript a b pos) (tE G W fun env => bnd (f env) fun x => bnd (h env) fun j S => opt (ixV S x j) S) :=
  PE.imp (pe_ix (ix_all g.iw) ha hb (plainIx_is hp)) fun σ H Q z => z.two fun S ν μ v w H' t u s d1 d2 y => ⟨_, t, u, S, ν, μ, s, d1, d2, y⟩
/-! ### slices -/
def tO (G : Wd) (W : WX) (f : Env → M (Option Int)) : TO := fun σ H Q => ∃ env S ν μ, Rl G env S ν μ σ H ∧ Fin G (Wk W σ) (fun _ _ _ a b => a = b) ν μ H (f env S) Q
abbrev endM (f : Env → M Tv) : Env → M (Option Int) := fun env => bnd (f env) fun x => match x with
  | .int i => ret (some i)
  | _ => bad
theorem PO.imp {e : Option Expr} {t t' : TO} (h : PO X e t) (i : ∀ σ H Q, t' σ H Q → t σ H Q) : PO X e t' := ⟨fun pins s σ H Q I q => h.run pins s σ H Q I (i σ H Q q)⟩
theorem s_end0 : PO X none (tO G W fun _ => ret none) := PO.imp po_none fun σ H Q ⟨env, S, ν, μ, r, z⟩ => Fin.ok z r.st rfl
theorem s_end (ha : PE X a (tE G W f)) : PO X (some a) (tO G W (endM f)) := PO.imp (po_some ha) fun σ H Q ⟨env, S, ν, μ, r, z⟩ => by
  refine ⟨env, S, ν, μ, r, (Fin.bnd (D := DV G) z).mono fun v H1 ⟨t, S1, ν1, μ1, a1, d1, z⟩ => ?_⟩
  cases t with
  | int i =>
    simp only [Dn] at d1
    subst d1
    exact ⟨i, rfl, Fin.ok z a1.st rfl⟩
  | _ => exact z.elim
theorem cut_dns {ts : List Tv} {vs : List V} {lo hi : Option Int} (d : Dns G ν μ H ts vs) : Dns G ν μ H (cutL ts lo hi) (cutV vs lo hi) := by
  unfold cutL cutV
  rw [d.length]
  exact Dns.take _ (Dns.drop _ d)
theorem cut_all {ts : List Tv} {lo hi : Option Int} (h : HT.sIx ts.length 0 lo = 0 ∧ HT.sIx ts.length ts.length hi = ts.length) : cutL ts lo hi = ts := by
  unfold cutL
  rw [h.1, h.2]
  simp
def rSls (G : Wd) : V → Option Int → Option Int → Hp → VK → Prop := fun x lo hi H Q => ∃ Wc t S ν μ, StR G ν μ S H ∧ Dn G ν μ H t x ∧ Fin G Wc (DV G) ν μ H (opt (slV S t lo hi) S) Q
theorem sl_any (iw : InW G X) : SlR X (rSls G) := by
  intro pins s σ H x v vl vu lo hi sl Q I rx hs pl pu ⟨Wc, t, S, ν, μ, st, d1, z⟩
  obtain ⟨r, e, z⟩ := z.opt
  have gen : ∀ ts, r = .lst (cutL ts lo hi) → ∀ q vs, x = .ref q → SqL X.K H q vs → Dns G ν μ H ts vs → rSlL X.K x lo hi H Q := fun ts er q vs ex sq d => by
    subst er
    exact ⟨q, vs, ex, sq, fun l hl => z.newL st hl (cut_dns d)⟩
  refine SlR.or sl_tupA sl_list pins s σ H x v vl vu lo hi sl Q I rx hs pl pu ?_
  cases t with
  | tup ts =>
    simp only [slV, Option.some.injEq] at e
    subst e
    have d1' := d1
    simp only [Dn] at d1
    obtain ⟨q, vs, rfl, fz, d⟩ := d1
    refine .inl ⟨q, vs, rfl, by rw [iw.K]; exact fz.sq, fun hw => ?_, fun hw l hl => z.newT st hl (cut_dns d)⟩
    rw [← d.length] at hw
    rw [cut_all hw] at z
    exact z.val st d1'
  | scr ts =>
    simp only [slV, Option.some.injEq] at e
    simp only [Dn] at d1
    obtain ⟨q, vs, rfl, hq, d⟩ := d1
    exact .inr (gen ts e.symm q vs rfl (by rw [iw.K]; exact hq.sq) d)
  | lst us =>
    obtain ⟨ts, h1, h2⟩ := Option.map_eq_some_iff.mp (show (lstOf S (.lst us)).map (fun ts => Tv.lst (cutL ts lo hi)) = some r from e)
    obtain ⟨q, vs, ex, hq, d⟩ := lst_of st d1 h1
    exact .inr (gen ts h2.symm q vs ex (.inl (.inl hq)) d)
  | cell m =>
    obtain ⟨ts, h1, h2⟩ := Option.map_eq_some_iff.mp (show (lstOf S (.cell m)).map (fun ts => Tv.lst (cutL ts lo hi)) = some r from e)
    obtain ⟨q, vs, ex, hq, d⟩ := lst_of st d1 h1
    exact .inr (gen ts h2.symm q vs ex (.inl (.inl hq)) d)
  | _ => simp [slV, lstOf] at e
theorem s_sl {lo hi : Option Expr} {l u : Env → M (Option Int)} (g : Gd G n N sc W X) (ha : PE X a (tE G W f)) (hl : PO X lo (tO G W l)) (hu : PO X hi (tO G W u)) :
    PE X (.Subscript a (.Slice lo hi none p) pos) (tE G W fun env => bnd (f env) fun x => bnd (l env) fun i => bnd (u env) fun j S => opt (slV S x i j) S) := by
  refine PE.imp (pe_slice (sl_any g.iw) ha hl hu) fun σ H Q ⟨env, S, ν, μ, r, z⟩ => ?_
  refine ⟨env, S, ν, μ, r, (Fin.bnd (D := DV G) z).mono fun v H1 ⟨t, S1, ν1, μ1, a1, d1, z⟩ => ?_⟩
  refine ⟨env, S1, ν1, μ1, r.af a1, (Fin.bnd (D := fun _ _ _ a b => a = b) z).mono fun i H2 ⟨i', S2, ν2, μ2, a2, d2, z⟩ => ?_⟩
  refine ⟨env, S2, ν2, μ2, (r.af a1).af a2, (Fin.bnd (D := fun _ _ _ a b => a = b) z).mono fun j H3 ⟨j', S3, ν3, μ3, a3, d3, z⟩ => ?_⟩
  subst d2 d3
  exact ⟨_, t, S3, ν3, μ3, a3.st, (d1.af a2).af a3, z⟩
theorem s_rev {kk : Nat} (g : Gd G n N sc W X) (ha : PE X a (tE G W f)) :
    PE X (.Subscript a (.Slice none none (some (.UnaryOp .USub (.Constant (.int 1) kk p1) p2)) p3) pos) (tE G W fun env => bnd (f env) fun x S => opt (revV S x) S) := by
  refine PE.imp (pe_revL ha) fun σ H Q z => z.one fun S ν μ v H' t s d y => ?_
  obtain ⟨r, e, y1⟩ := y.opt
  obtain ⟨ts, h1, h2⟩ := Option.map_eq_some_iff.mp (show (lstOf S t).map (fun ts => Tv.lst ts.reverse) = some r from e)
  subst h2
  obtain ⟨q, vs, ex, hq, d⟩ := lst_of s d h1
  exact ⟨q, vs, ex, .inl (.inl hq), fun l hl => y1.newL s hl d.reverse⟩
/-! ### calls -/
/-- what a def promises, by the evaluator -/
def spF (G : Wd) (m : List Tv → M Tv) : Sp := fun vs H Q E => ∃ ts S ν μ, StR G ν μ S H ∧ Dns G ν μ H ts vs ∧ Fin G E (DV G) ν μ H (m ts S) Q
theorem s_call {k : Nat} {fa : Addr} {fd : FuncData} {ps : List Str} {x : Str} {m : List Tv → M Tv} (g : Gd G n N sc W X) (F : FnG G k fa fd ps (spF G m)) (hr : k ≤ n) (hg : Gl X x) (hm : G.mg x = some (.ref fa)) (hk : PySem.W.keepIn G.K (.ref fa) = true)
    (hb : Binds G.K fd ps []) (ha : PA X (e :: es) (tA G W fs)) (ns : (e :: es).all notStar = true) (hdb : (x == ("__debug__" : Str)) = false) :
    PE X (.Call (.Name x p) (e :: es) [] pos) (tE G W fun env => bnd (fs env) m) := by
  refine PE.imp (pe_cl g.iw g.tk F (g.room.mono hr) hg hm hk hb ha ns hdb) fun σ H Q ⟨env, S, ν, μ, r, z⟩ => ?_
  exact ⟨env, S, ν, μ, r, (Fin.bnd (D := DVs G) z).mono fun vs H1 ⟨ts, S1, ν1, μ1, a1, d1, z⟩ => ⟨ts, S1, ν1, μ1, a1.st, d1, z⟩⟩
theorem s_call0 {k : Nat} {fa : Addr} {fd : FuncData} {ps : List Str} {x : Str} {m : List Tv → M Tv} (g : Gd G n N sc W X) (F : FnG G k fa fd ps (spF G m)) (hr : k ≤ n) (hg : Gl X x) (hm : G.mg x = some (.ref fa)) (hk : PySem.W.keepIn G.K (.ref fa) = true)
    (hb : Binds G.K fd ps []) (hdb : (x == ("__debug__" : Str)) = false) : PE X (.Call (.Name x p) [] [] pos) (tE G W fun env => bnd (ret []) m) := by
  refine PE.imp (pe_cl0 g.iw g.tk F (g.room.mono hr) hg hm hk hb hdb) fun σ H Q ⟨env, S, ν, μ, r, z⟩ => ?_
  exact ⟨[], S, ν, μ, r.st, by simp only [Dns], z⟩
def rPs (G : Wd) (q : Pr) : List V → Hp → VK → Prop := fun vs H Q => ∃ Wc, rP G Wc q vs H Q
def Pr.nm : Pr → Str
  | .len => "len" | .tuple => "tuple" | .int => "int" | .abs => "abs" | .sum => "sum" | .max => "max" | .min => "min" | .max2 => "max" | .min2 => "min" | .minD => "min" | .all => "all" | .any => "any" | .repr => "repr" | .str => "str"
def Pr.val : Pr → Value
  | .len => .builtin "len" | .tuple => .type "tuple" | .int => .type "int" | .abs => .builtin "abs" | .sum => .builtin "sum" | .max => .builtin "max" | .min => .builtin "min" | .max2 => .builtin "max" | .min2 => .builtin "min" | .minD => .builtin "min"
  | .all => .builtin "all" | .any => .builtin "any" | .repr => .builtin "repr" | .str => .type "str"
theorem cr_pr (g : Gd G n N sc W X) {q : Pr} (hq : q ≠ .minD) : CallR X q.val (rPs G q) := by
  intro pins s σ H vs us Q I rv ⟨Wc, z⟩
  cases q with
  | len => exact cr_len g pins s σ H vs us Q I rv z
  | tuple => exact cr_tuple g pins s σ H vs us Q I rv z
  | int => exact cr_int g pins s σ H vs us Q I rv z
  | abs => exact cr_abs g pins s σ H vs us Q I rv z
  | sum => exact cr_sum g pins s σ H vs us Q I rv z
  | max => exact cr_max g pins s σ H vs us Q I rv z
  | min => exact cr_min g pins s σ H vs us Q I rv z
  | max2 => exact cr_max2 g pins s σ H vs us Q I rv z
  | min2 => exact cr_min2 g pins s σ H vs us Q I rv z
  | all => exact cr_all g pins s σ H vs us Q I rv z
  | any => exact cr_any g pins s σ H vs us Q I rv z
  | repr => exact cr_repr g pins s σ H vs us Q I rv z
  | str => exact cr_str g pins s σ H vs us Q I rv z
  | minD => exact absurd rfl hq
theorem boot_pr {q : Pr} : bootBuiltins q.nm = some q.val := by cases q <;> decide +kernel
theorem pr_nm {q : Pr} : q.nm ≠ "__name__" ∧ (q.nm == ("__debug__" : Str)) = false := by cases q <;> exact ⟨by decide, by decide⟩
theorem s_prim {q : Pr} (g : Gd G n N sc W X) (hq : q ≠ .minD) (hg : Gl X q.nm) (hm : G.mg q.nm = none) (ha : PA X (e :: es) (tA G W fs)) (ns : (e :: es).all notStar = true) :
    PE X (.Call (.Name q.nm p) (e :: es) [] pos) (tE G W fun env => bnd (fs env) fun xs S => opt (primV q S xs) S) := by
  have ns' : notStar e = true ∧ es.all notStar = true := by simpa using ns
  have hm' : X.mg q.nm = none := by rw [g.iw.mg]; exact hm
  have key : PE X (.Call (.Name q.nm p) (e :: es) [] pos) (tCB (rPs G q) (tA G W fs)) := by
    have cr := cr_pr g hq
    have bt := boot_pr (q := q)
    generalize hv : q.val = v at cr bt
    cases q with
    | tuple => cases hv; exact pe_callTy cr hg hm' bt ha pr_nm.1 pr_nm.2 (star_cons ns'.1 es) (star_any ns'.2)
    | int => cases hv; exact pe_callTy cr hg hm' bt ha pr_nm.1 pr_nm.2 (star_cons ns'.1 es) (star_any ns'.2)
    | str => cases hv; exact pe_callTy cr hg hm' bt ha pr_nm.1 pr_nm.2 (star_cons ns'.1 es) (star_any ns'.2)
    | _ => cases hv; exact pe_callB cr hg hm' bt ha pr_nm.1 pr_nm.2 (star_cons ns'.1 es) (star_any ns'.2)
  refine PE.imp key fun σ H Q ⟨env, S, ν, μ, r, z⟩ => ?_
  exact ⟨env, S, ν, μ, r, (Fin.bnd (D := DVs G) z).mono fun vs H1 ⟨ts, S1, ν1, μ1, a1, d1, z⟩ => ⟨_, ts, S1, ν1, μ1, a1.st, d1, z⟩⟩
end
end Mp
namespace Mp
open PySem L2 PySem.Spec
section
variable {G : Wd} {n : Nat} {N : List Str} {sc : Scope} {W : WX} {X : Cx} {a b c e : Expr} {es : List Expr} {pos p p1 p2 p3 : Pos} {f h k : Env → M Tv} {ft ht kt : Env → M Bool} {fs hs : Env → M (List Tv)}
  {ν μ ν' μ' ν1 μ1 : List Addr} {H H' H1 : Hp} {S S' : Sto}
/-! ### methods of lists in the store -/
theorem cell_at {m : Nat} {ts : List Tv} {v : V} (s : StR G ν μ S H) (d : Dn G ν μ H (.cell m) v) (e : S[m]? = some (.lst ts)) : ∃ q vs, v = .ref q ∧ μ[m]? = some q ∧ H q = some (.lst vs) ∧ Dns G ν μ H ts vs := by
  simp only [Dn] at d
  obtain ⟨q, rfl, hq⟩ := d
  obtain ⟨vs, h1, h2⟩ := s.at e hq
  exact ⟨q, vs, rfl, hq, h1, h2⟩
theorem Dns.write {q : Addr} {o : HO} {ts : List Tv} {vs : List V} (hq : q ∈ ν) (d : Dns G ν μ H ts vs) : Dns G ν μ (upd H q o) ts vs := Dns.kp (.write hq) (List.prefix_refl _) _ _ d
theorem Dn.write {q : Addr} {o : HO} {t : Tv} {v : V} (hq : q ∈ ν) (d : Dn G ν μ H t v) : Dn G ν μ (upd H q o) t v := Dn.kp (.write hq) (List.prefix_refl _) _ _ d
/-- the list at a place is another one -/
theorem StR.lst {m : Nat} {q : Addr} {ts : List Tv} {vs : List V} (s : StR G ν μ S H) (hq : μ[m]? = some q) (d : Dns G ν μ H ts vs) : StR G ν μ (S.set m (.lst ts)) (upd H q (.lst vs)) :=
  s.write hq ⟨vs, upd_same, d.write (s.sub q (List.mem_of_getElem? hq))⟩
theorem Af.lst {m : Nat} {q : Addr} {ts : List Tv} {vs : List V} (s : StR G ν μ S H) (hq : μ[m]? = some q) (d : Dns G ν μ H ts vs) : Af G ν μ H ν μ (S.set m (.lst ts)) (upd H q (.lst vs)) :=
  ⟨.write (s.sub q (List.mem_of_getElem? hq)), List.prefix_refl _, s.lst hq d, fun _ h => .inl h, fun a u n e => by rw [upd_ne (fun z => n (by rw [z]; exact List.mem_of_getElem? hq))]; exact e⟩
theorem Dns.dropLast {ts : List Tv} {vs : List V} (d : Dns G ν μ H ts vs) : Dns G ν μ H ts.dropLast vs.dropLast := by
  rw [List.dropLast_eq_take, List.dropLast_eq_take, ← d.length]
  exact d.take _
theorem needL_ok {x : Tv} {r : Rs Nat} (e : needL x S = r) : (∃ m ts, x = .cell m ∧ S[m]? = some (.lst ts) ∧ r = .ok m S) ∨ r = .bad := by
  subst e
  unfold needL
  cases x with
  | cell m =>
    simp only
    cases e : S[m]? with
    | none => exact .inr rfl
    | some o => cases o with
      | lst ts => exact .inl ⟨m, ts, rfl, e, rfl⟩
      | _ => exact .inr rfl
  | _ => exact .inr rfl
theorem Fin.need {x : Tv} {Wc : Value → Option Addr → Hp → Prop} {kk : M Tv} {Q : VK} (z : Fin G Wc (DV G) ν μ H ((needL x S).bnd fun _ => kk) Q) : (∃ m ts, x = .cell m ∧ S[m]? = some (.lst ts)) ∧ Fin G Wc (DV G) ν μ H (kk S) Q := by
  rcases needL_ok (S := S) (x := x) rfl with ⟨m, ts, e1, e2, e3⟩ | e
  · rw [e3] at z
    exact ⟨⟨m, ts, e1, e2⟩, z⟩
  · rw [e] at z
    exact z.elim
theorem s_pop {apos : Pos} (ha : PE X a (tE G W f)) (hbase : attributeBase a "pop" X.env (eval a X.env) = eval a X.env) (hline : (apos.endLine == pos.line) = true) :
    PE X (.Call (.Attribute a "pop" apos) [] [] pos) (tE G W fun env => bnd (f env) popL) := by
  refine PE.imp (pe_bm0 PySem.F.plainAttrs_list PySem.F.slot_list_pop PySem.F.type_list_pop mt_pop ha hbase hline) fun σ H Q z => z.one fun S ν μ v H' t s d y => ?_
  unfold popL at y
  cases t with
  | cell m =>
    simp only at y
    cases e : S[m]? with
    | none => rw [e] at y; exact y.elim
    | some o =>
      rw [e] at y
      cases o with
      | lst ts =>
        simp only at y
        cases e2 : ts.getLast? with
        | none => rw [e2] at y; exact y.elim
        | some t =>
          rw [e2] at y
          obtain ⟨q, vs, rfl, hq, h1, d1⟩ := cell_at s d e
          rw [List.getLast?_eq_getElem?] at e2
          obtain ⟨w, e3, d2⟩ := d1.get e2
          rw [d1.length] at e3
          refine ⟨.inl ⟨rfl, vs, .inl (.inl h1)⟩, q, vs, w, rfl, rfl, h1, e3, ?_⟩
          have a := Af.lst s hq d1.dropLast
          exact y _ _ _ _ a (d2.af a)
      | _ => exact y.elim
  | _ => exact y.elim
theorem pa_one (ns : notStar a = true) (ha : PE X a (tE G W f)) : PA X [a] (tA G W fun env => bnd (f env) fun x => bnd (ret []) fun xs => ret (x :: xs)) := s_cons ns ha s_nil
theorem tA_one {σ : L2.St} {Q : List V → Hp → Prop} {env : Env} (r : Rl G env S ν μ σ H) (z : Fin G (Wk W σ) (DV G) ν μ H (f env S) fun v H' => Q [v] H') : tA G W (fun env => bnd (f env) fun x => bnd (ret []) fun xs => ret (x :: xs)) σ H Q := by
  refine ⟨env, S, ν, μ, r, ?_⟩
  simp only [bnd]
  cases e : f env S with
  | ok t S1 =>
    rw [e] at z
    intro vs H' ν' μ' a d
    obtain ⟨v, rfl, d'⟩ := Dns.un1 d
    exact z v H' ν' μ' a d'
  | ex c fs S1 => rw [e] at z; exact z
  | bad => rw [e] at z; exact z
theorem few1 {X : Cx} (ns : notStar b = true) : ((backTo pos (starEach [b] X.env)).all (fun x => !x.1) && (backToKw pos (keywordEach [] X.env)).all (fun x => x.1.isSome) && decide ([b].length + ([] : List Keyword).length + (if ([] : List Keyword).isEmpty then 0 else 1) < 30)) = true := by
  rw [star_cons ns]
  rfl
theorem seqIx_nat {j : Int} {m : Nat} (h0 : 0 ≤ j) (h1 : j.toNat < m) : seqIndex? j m = some j.toNat := seqIndex_of h0 (by omega)
theorem s_popAt {apos : Pos} (ha : PE X a (tE G W f)) (hb : PE X b (tE G W h)) (ns : notStar b = true) (hbase : attributeBase a "pop" X.env (eval a X.env) = eval a X.env) (hline : (apos.endLine == pos.line) = true) :
    PE X (.Call (.Attribute a "pop" apos) [b] [] pos) (tE G W fun env => bnd (f env) fun x => bnd (needL x) fun _ => bnd (h env) fun j => popAtL x j) := by
  refine PE.imp (pe_bm PySem.F.plainAttrs_list PySem.F.slot_list_pop PySem.F.type_list_pop mt_popAt ha (pa_one ns hb) hbase (few1 ns) hline (star_cons ns []) rfl) fun σ H Q ⟨env, S, ν, μ, r, z⟩ => ?_
  refine ⟨env, S, ν, μ, r, (Fin.bnd (D := DV G) z).mono fun v H1 ⟨t, S1, ν1, μ1, a1, d1, z⟩ => ?_⟩
  obtain ⟨⟨m, ts, rfl, e⟩, z⟩ := z.need
  obtain ⟨q, vs, rfl, hq, h1, d2⟩ := cell_at a1.st d1 e
  refine ⟨.inl ⟨rfl, vs, .inl (.inl h1)⟩, tA_one (r.af a1) ((Fin.bnd (D := DV G) z).mono fun w H2 ⟨u, S2, ν2, μ2, a2, d3, z⟩ => ?_)⟩
  unfold popAtL at z
  cases u with
  | int j =>
    simp only [Dn] at d3
    subst d3
    simp only at z
    cases e2 : S2[m]? with
    | none => rw [e2] at z; exact z.elim
    | some o =>
      rw [e2] at z
      cases o with
      | lst ts2 =>
        simp only at z
        split at z
        · rename_i hj
          cases e3 : ts2[j.toNat]? with
          | none => rw [e3] at z; exact z.elim
          | some t2 =>
            rw [e3] at z
            obtain ⟨q2, vs2, eq2, hq2, h2, d4⟩ := cell_at a2.st (d1.af a2) e2
            cases eq2
            obtain ⟨w2, e4, d5⟩ := d4.get e3
            have hl : j.toNat < vs2.length := (List.getElem?_eq_some_iff.mp e4).1
            have a3 := Af.lst a2.st hq2 (d4.eraseIdx j.toNat)
            exact ⟨q, vs2, j, j.toNat, w2, rfl, rfl, h2, by omega, by omega, seqIx_nat hj.1 hl, e4, z _ _ _ _ a3 (d5.af a3)⟩
        · exact z.elim
      | _ => exact z.elim
  | _ => exact z.elim
theorem s_app {apos : Pos} (ha : PE X a (tE G W f)) (hb : PE X b (tE G W h)) (ns : notStar b = true) (hbase : attributeBase a "append" X.env (eval a X.env) = eval a X.env) (hline : (apos.endLine == pos.line) = true) :
    PE X (.Call (.Attribute a "append" apos) [b] [] pos) (tE G W fun env => bnd (f env) fun x => bnd (needL x) fun _ => bnd (h env) fun y => appL x y) := by
  refine PE.imp (pe_bm PySem.F.plainAttrs_list PySem.F.slot_list_append PySem.F.type_list_append mt_append ha (pa_one ns hb) hbase (few1 ns) hline (star_cons ns []) rfl) fun σ H Q ⟨env, S, ν, μ, r, z⟩ => ?_
  refine ⟨env, S, ν, μ, r, (Fin.bnd (D := DV G) z).mono fun v H1 ⟨t, S1, ν1, μ1, a1, d1, z⟩ => ?_⟩
  obtain ⟨⟨m, ts, rfl, e⟩, z⟩ := z.need
  obtain ⟨q, vs, rfl, hq, h1, d2⟩ := cell_at a1.st d1 e
  refine ⟨.inl ⟨rfl, vs, .inl (.inl h1)⟩, tA_one (r.af a1) ((Fin.bnd (D := DV G) z).mono fun w H2 ⟨u, S2, ν2, μ2, a2, d3, z⟩ => ?_)⟩
  unfold appL at z
  simp only at z
  cases e2 : S2[m]? with
  | none => rw [e2] at z; exact z.elim
  | some o =>
    rw [e2] at z
    cases o with
    | lst ts2 =>
      simp only at z
      split at z
      · rename_i hj
        obtain ⟨q2, vs2, eq2, hq2, h2, d4⟩ := cell_at a2.st (d1.af a2) e2
        cases eq2
        have a3 := Af.lst a2.st hq2 (d4.append (Dns.one d3))
        refine ⟨q, vs2, w, rfl, rfl, h2, ?_, z _ _ _ _ a3 dn_non⟩
        have := lim_le (n := ts2.length + 1) hj
        rw [← d4.length]
        omega
      · exact z.elim
    | _ => exact z.elim
/-! ### a new list: as a thing that stays as it is, as a place -/
theorem StR.adopt {q : Addr} {ts : List Tv} {vs : List V} (s : StR G ν μ S H) (h1 : q ∈ ν) (h2 : q ∉ μ) (h3 : H q = some (.lst vs)) (d : Dns G ν μ H ts vs) : StR G ν (μ ++ [q]) (S ++ [.lst ts]) H := by
  have pre : μ <+: μ ++ [q] := List.prefix_append _ _
  refine ⟨by rw [List.length_append, List.length_append, s.len]; rfl, ?_, fun a ha => ?_, s.trk, fun m v e => ?_⟩
  · rw [List.nodup_append]
    exact ⟨s.nd, List.nodup_cons.mpr ⟨by simp, List.nodup_nil⟩, fun a ha b hb => by
      rw [List.mem_singleton.mp hb]
      exact fun z => h2 (by rw [← z]; exact ha)⟩
  · rcases List.mem_append.mp ha with z | z
    · exact s.sub a z
    · rw [List.mem_singleton.mp z]; exact h1
  · by_cases hm : m < S.length
    · rw [List.getElem?_append_left hm] at e
      obtain ⟨a, e1, r⟩ := s.ob m v e
      exact ⟨a, by rw [List.getElem?_append_left (by rw [s.len]; exact hm)]; exact e1, r.kp .refl pre rfl⟩
    · have em : m = S.length := by
        have := (List.getElem?_eq_some_iff.mp e).1
        rw [List.length_append] at this
        have : m < S.length + 1 := this
        omega
      subst em
      rw [List.getElem?_append_right (Nat.le_refl _), Nat.sub_self] at e
      cases e
      exact ⟨q, by rw [List.getElem?_append_right (by rw [s.len]; exact Nat.le_refl _), s.len, Nat.sub_self]; rfl, vs, h3, Dns.kp .refl pre _ _ d⟩
/-- the new list, where it stands -/
def NewL (G : Wd) (ν : List Addr) (H : Hp) : List Addr → List Addr → Hp → List Tv → V → Prop := fun ν' μ' H' ts v => ∃ q vs, v = .ref q ∧ q ∈ ν' ∧ q ∉ μ' ∧ q ∉ ν ∧ H q = none ∧ H' q = some (.lst vs) ∧ Dns G ν' μ' H' ts vs
theorem s_fz (ha : PE X e (tL G W fs)) : PE X e (tE G W fun env => bnd (fs env) fun xs => ret (.lst xs)) := by
  refine PE.imp ha fun σ H Q ⟨env, S, ν, μ, r, z⟩ => ⟨env, S, ν, μ, r, ?_⟩
  simp only [bnd] at z
  cases e : fs env S with
  | ok ts S1 =>
    rw [e] at z
    rintro v H' ν' μ' a ⟨q, vs, rfl, h1, h2, h3, h4, h5, d⟩
    have nd : ∀ y ∈ ν'.filter (fun y => decide (y ≠ q)), y ∈ ν' := fun y hy => (List.mem_filter.mp hy).1
    have a' : Af G ν μ H (ν'.filter (fun y => decide (y ≠ q))) μ' S1 H' := by
      refine ⟨⟨fun y hy => List.mem_filter.mpr ⟨a.kp.sub y hy, decide_eq_true (fun z => h3 (z ▸ hy))⟩, fun y hy => a.kp.new y (nd y hy), a.kp.keep⟩, a.pre, a.st.less nd fun y hy => List.mem_filter.mpr ⟨a.st.sub y hy, decide_eq_true (fun z => h2 (z ▸ hy))⟩, a.nm, a.lk⟩
    refine z (.ref q) H' _ μ' a' ?_
    show Dn G _ μ' H' (.lst ts) (.ref q)
    simp only [Dn]
    exact ⟨q, vs, rfl, ⟨fun hy => by have := (List.mem_filter.mp hy).2; simp at this, h5⟩, Dns.less nd _ _ d⟩
  | ex c fs S1 => rw [e] at z; exact z
  | bad => rw [e] at z; exact z
theorem s_mu (ha : PE X e (tL G W fs)) : PE X e (tE G W fun env => bnd (fs env) fun xs => alloc (.lst xs)) := by
  refine PE.imp ha fun σ H Q ⟨env, S, ν, μ, r, z⟩ => ⟨env, S, ν, μ, r, ?_⟩
  simp only [bnd] at z
  cases e : fs env S with
  | ok ts S1 =>
    rw [e] at z
    rintro v H' ν' μ' a ⟨q, vs, rfl, h1, h2, h3, h4, h5, d⟩
    have st := a.st.adopt h1 h2 h5 d
    refine z (.ref q) H' ν' (μ' ++ [q]) ⟨a.kp, a.pre.trans (List.prefix_append _ _), st, fun y hy => by
      rcases List.mem_append.mp hy with w | w
      · exact a.nm y w
      · rw [List.mem_singleton.mp w]; exact .inr h4, a.lk⟩ ?_
    show Dn G _ _ H' (.cell S1.length) (.ref q)
    simp only [Dn]
    exact ⟨q, rfl, by rw [← a.st.len]; simp⟩
  | ex c fs S1 => rw [e] at z; exact z
  | bad => rw [e] at z; exact z
theorem new_none (s : StR G ν1 μ1 S H1) (k : Kp ν H ν1 H1) {q : Addr} (hq : H1 q = none) : q ∉ ν1 ∧ q ∉ ν ∧ H q = none := by
  have h1 := s.fresh hq
  refine ⟨h1, fun z => h1 (k.sub q z), ?_⟩
  cases e : H q with
  | none => rfl
  | some o =>
    by_cases z : q ∈ ν
    · exact absurd (k.sub q z) h1
    · rw [k.keep q o z e] at hq; cases hq
theorem Af.place0 {q : Addr} {vs : List V} (s : StR G ν μ S H) (hq : H q = none) : Af G ν μ H (q :: ν) μ S (upd H q (.lst vs)) := by
  have k : Kp ν H (q :: ν) (upd H q (.lst vs)) := .place hq
  refine ⟨k, List.prefix_refl _, ⟨s.len, s.nd, fun a ha => List.mem_cons_of_mem _ (s.sub a ha), fun a ha => ?_, fun m o e => ?_⟩, fun _ h => .inl h, fun a u _ e => by rw [upd_ne (ne_of_none e hq)]; exact e⟩
  · rcases List.mem_cons.mp ha with z | z
    · rw [z]; exact ⟨_, upd_same⟩
    · obtain ⟨o, e⟩ := s.trk a z
      exact ⟨o, by rw [upd_ne (ne_of_none e hq)]; exact e⟩
  · obtain ⟨a, e1, r⟩ := s.ob m o e
    obtain ⟨z, ez⟩ := r.some
    exact ⟨a, e1, r.kp k (List.prefix_refl _) (upd_ne (ne_of_none ez hq))⟩
theorem s_disp (hr : PA X es (tA G W fs)) : PE X (.List es pos) (tL G W fun env => bnd (fs env) fun xs => if xs.length ≤ lim then ret xs else bad) := by
  refine PE.imp (pe_lst hr) fun σ H Q ⟨env, S, ν, μ, r, z⟩ => ?_
  refine ⟨env, S, ν, μ, r, ?_⟩
  simp only [bnd] at z
  cases e : fs env S with
  | ok ts S1 =>
    rw [e] at z
    intro vs H1 ν1 μ1 a d
    simp only [Rs.bnd] at z
    split at z
    · rename_i hl
      refine ⟨by rw [← Dns.length d]; exact lim_le hl, fun q hq => ?_⟩
      obtain ⟨n1, n2, n3⟩ := new_none a.st a.kp hq
      have a2 := Af.place0 (vs := vs) a.st hq
      exact z (.ref q) _ _ _ (a.trans a2) ⟨q, vs, rfl, List.mem_cons_self, fun m => n1 (a.st.sub q m), n2, n3, upd_same, Dns.af a2 d⟩
    · exact z.elim
  | ex c fs S1 => rw [e] at z; exact z
  | bad => rw [e] at z; exact z
theorem s_ofSeq (g : Gd G n N sc W X) (hg : Gl X "list") (hm : G.mg "list" = none) (ns : notStar a = true) (ha : PE X a (tE G W f)) : PE X (.Call (.Name "list" p) [a] [] pos) (tL G W fun env => bnd (f env) fun x S => opt (seqOf S x) S) := by
  refine PE.imp (pe_callTy call_list_of hg (by rw [g.iw.mg]; exact hm) (by decide +kernel) (pa_one ns ha) (by decide) (by decide) (star_cons ns []) rfl) fun σ H Q ⟨env, S, ν, μ, r, z⟩ => ?_
  refine tA_one r ?_
  simp only [bnd] at z
  cases e : f env S with
  | ok t S1 =>
    rw [e] at z
    intro v H1 ν1 μ1 a d
    simp only [Rs.bnd] at z
    cases e2 : seqOf S1 t with
    | none => rw [e2] at z; exact z.elim
    | some ts =>
      rw [e2] at z
      obtain ⟨q, vs, rfl, sq, d1⟩ := seq_of a.st d e2
      refine ⟨q, vs, rfl, by rw [g.iw.K]; exact sq, fun l hl => ?_⟩
      obtain ⟨n1, n2, n3⟩ := new_none a.st a.kp hl
      have a2 := Af.place0 (vs := vs) a.st hl
      exact z (.ref l) _ _ _ (a.trans a2) ⟨l, vs, rfl, List.mem_cons_self, fun m => n1 (a.st.sub l m), n2, n3, upd_same, Dns.af a2 d1⟩
  | ex c fs S1 => rw [e] at z; exact z
  | bad => rw [e] at z; exact z
end
end Mp
namespace Mp
open PySem L2 PySem.Spec
section
variable {G : Wd} {n : Nat} {N : List Str} {sc : Scope} {W W0 : WX} {X : Cx} {a b c e : Expr} {es : List Expr} {pos p p1 p2 p3 : Pos} {f h k : Env → M Tv} {ft ht kt : Env → M Bool} {fs hs : Env → M (List Tv)}
  {ν μ ν' μ' ν1 μ1 : List Addr} {H H' H1 : Hp} {S S' : Sto}
/-! ### targets -/
mutual
def Tg.slots : Tg → List Nat
  | .v i => [i]
  | .tup ts => Tg.slotss ts
def Tg.slotss : List Tg → List Nat
  | [] => []
  | t :: r => t.slots ++ Tg.slotss r
end
theorem wipe_set {σ : L2.St} {i : Nat} {x : Option V} : ∀ {vs : List Nat}, i ∈ vs → wipe (σ.set i x) vs = wipe σ vs
  | v :: vs, h => by
    unfold wipe
    by_cases hi : i ∈ vs
    · rw [wipe_set hi]
    · have e : v = i := by
        rcases List.mem_cons.mp h with q | q
        · exact q.symm
        · exact absurd q hi
      subst e
      have g : ∀ (ws : List Nat) (τ : L2.St), (wipe (τ.set v x) ws).set v none = (wipe τ ws).set v none := by
        intro ws
        induction ws with
        | nil => intro τ; unfold wipe; rw [List.set_set]
        | cons w ws ih =>
          intro τ
          unfold wipe
          by_cases hw : w = v
          · subst hw; rw [List.set_set, List.set_set]; exact ih τ
          · rw [List.set_comm _ _ hw, ih τ, List.set_comm _ _ (Ne.symm hw)]
      exact g vs σ
theorem wipe_wipe {σ : L2.St} {vs : List Nat} : ∀ {ws : List Nat}, (∀ i ∈ ws, i ∈ vs) → wipe (wipe σ ws) vs = wipe σ vs
  | [], _ => rfl
  | w :: ws, h => by
    show wipe ((wipe σ ws).set w none) vs = _
    rw [wipe_set (h w List.mem_cons_self)]
    exact wipe_wipe fun i hi => h i (List.mem_cons_of_mem _ hi)
/-- only these names are other ones -/
def OnlyS (l : List Nat) (σ σ' : L2.St) : Prop := ∀ vs : List Nat, (∀ i ∈ l, i ∈ vs) → wipe σ' vs = wipe σ vs
def gT (G : Wd) (tg : Tg) : TG := fun v σ H Q => ∃ t env ν μ e, EnR G ν μ H env σ ∧ Dn G ν μ H t v ∧ setTg tg t env = some e ∧ ∀ σ', EnR G ν μ H e σ' → OnlyS tg.slots σ σ' → Q σ' H
def gTs (G : Wd) (tgs : List Tg) : TGs := fun vs σ H Q => ∃ ts env ν μ e, EnR G ν μ H env σ ∧ Dns G ν μ H ts vs ∧ setTgs tgs ts env = some e ∧ ∀ σ', EnR G ν μ H e σ' → OnlyS (Tg.slotss tgs) σ σ' → Q σ' H
theorem PG.imp {tg : Expr} {t t' : TG} (h : PG X tg t) (i : ∀ v σ H Q, t' v σ H Q → t v σ H Q) : PG X tg t' := ⟨fun pins s σ H v u Q I r q => h.run pins s σ H v u Q I r (i v σ H Q q)⟩
theorem PGs.imp {tg : List Expr} {t t' : TGs} (h : PGs X tg t) (i : ∀ v σ H Q, t' v σ H Q → t v σ H Q) : PGs X tg t' := ⟨fun pins s σ H v u Q I r q => h.run pins s σ H v u Q I r (i v σ H Q q)⟩
/-- what Gd asks of names that are stored -/
def LocB (sc : Scope) (x : Str) : Bool := match sc.names.lookup x with
  | some .local => true
  | some .cell => true
  | _ => false
theorem loc_of {x : Str} (h : LocB sc x = true) : L2.Loc sc x := by
  unfold LocB at h
  unfold L2.Loc
  split at h
  · exact .inl (by assumption)
  · exact .inr (by assumption)
  · cases h
theorem s_tgv {i : Nat} {x : Str} (g : Gd G n N sc W X) (fn : sc.names.lookup x = some .cell → X.fn x = true) (hi : N[i]? = some x) (hx : LocB sc x = true) : PG X (.Name x pos) (gT G (.v i)) := by
  have hf : X.fn x = true ∨ X.env.scope.names.lookup x = some .local := by
    rw [g.sc]
    rcases loc_of hx with q | q
    · exact .inr q
    · exact .inl (fn q)
  refine PG.imp (pg_name (i := i) (by rw [g.nms]; exact g.nd) (by rw [g.nms]; exact hi) (by rw [g.sc]; exact loc_of hx) hf) fun v σ H Q ⟨t, env, ν, μ, e, r, d, he, q⟩ => ?_
  cases he
  exact q _ (r.set d) fun vs hvs => wipe_set (hvs i (by simp [Tg.slots]))
theorem s_tgn : PGs X [] (gTs G []) := PGs.imp pgs_nil fun vs σ H Q ⟨ts, env, ν, μ, e, r, d, he, q⟩ => by
  cases ts with
  | nil =>
    simp only [Dns] at d
    cases he
    exact ⟨d, q σ r fun _ _ => rfl⟩
  | cons t r => simp [setTgs] at he
theorem each_cons {env : PySem.Env} (h : notStar e = true) (es : List Expr) : assignEach (e :: es) env = (false, assign e env) :: assignEach es env := by
  cases e <;> first | rfl | cases h
theorem s_tgc {g : Tg} {gs : List Tg} (ns : notStar e = true) (h1 : PG X e (gT G g)) (h2 : PGs X es (gTs G gs)) : PGs X (e :: es) (gTs G (g :: gs)) := by
  refine PGs.imp (pgs_cons h1 h2 (by rw [each_cons ns]; rfl)) fun vs σ H Q ⟨ts, env, ν, μ, e, r, d, he, q⟩ => ?_
  cases ts with
  | nil => simp [setTgs] at he
  | cons t ts =>
    simp only [Dns] at d
    obtain ⟨v, vr, rfl, d1, d2⟩ := d
    simp only [setTgs] at he
    cases e1 : setTg g t env with
    | none => rw [e1] at he; cases he
    | some e0 =>
      rw [e1] at he
      refine ⟨v, vr, rfl, t, env, ν, μ, e0, r, d1, e1, fun σ1 r1 o1 => ⟨ts, e0, ν, μ, e, r1, d2, he, fun σ2 r2 o2 => q σ2 r2 fun vs hvs => ?_⟩⟩
      rw [o2 vs fun i hi => hvs i (by simp [Tg.slotss, hi]), o1 vs fun i hi => hvs i (by simp [Tg.slotss, hi])]
theorem setTgs_len : ∀ {gs : List Tg} {ts : List Tv} {env e : Env}, setTgs gs ts env = some e → ts.length = gs.length
  | [], [], _, _, _ => rfl
  | [], _ :: _, _, _, h => by simp [setTgs] at h
  | _ :: _, [], _, _, h => by simp [setTgs] at h
  | g :: gs, t :: ts, env, e, h => by
    simp only [setTgs] at h
    split at h
    · rw [List.length_cons, List.length_cons, setTgs_len h]
    · cases h
theorem each_len {env : PySem.Env} : ∀ {es : List Expr}, es.all notStar = true → (assignEach es env).length = es.length ∧ (assignEach es env).findIdx? (·.1) = none
  | [], _ => ⟨rfl, rfl⟩
  | e :: es, h => by
    have h' : notStar e = true ∧ es.all notStar = true := by simpa using h
    obtain ⟨q1, q2⟩ := each_len (env := env) h'.2
    rw [each_cons h'.1]
    refine ⟨by rw [List.length_cons, List.length_cons, q1], ?_⟩
    rw [List.findIdx?_cons]
    simp [q2]
theorem s_tgt {gs : List Tg} {kk : Nat} (g : Gd G n N sc W X) (ns : es.all notStar = true) (hl : es.length = gs.length) (h : PGs X es (gTs G gs)) : PG X (.Tuple es kk pos) (gT G (.tup gs)) := by
  obtain ⟨q1, q2⟩ := each_len (env := X.env) ns
  refine PG.imp (pg_tup g.calm h q1 q2) fun v σ H Q ⟨t, env, ν, μ, e, r, d, he, q⟩ => ?_
  cases t with
  | tup us =>
    simp only [setTg] at he
    simp only [Dn] at d
    obtain ⟨a, vs, rfl, fz, d⟩ := d
    refine ⟨a, vs, rfl, by rw [g.iw.K]; exact fz.sq, ?_, us, env, ν, μ, e, r, d, he, q⟩
    rw [← d.length, setTgs_len he, hl]
  | _ => simp [setTg] at he
/-! ### what is gone through -/
structure ItR (G : Wd) (ν0 μ0 : List Addr) (H0 : Hp) (ts : List Tv) (w : List (Nat × List Tv)) (J : It) : Prop where
  go : ∀ (i : Nat) (ν μ : List Addr) (S : Sto) (H : Hp), Af G ν0 μ0 H0 ν μ S H → stays w S = true → i < ts.length → J.go i H ∧ ∀ x H', J.yld i H x H' → ∃ t, ts[i]? = some t ∧ Af G ν μ H ν μ S H' ∧ Dn G ν μ H' t x ∧ ∀ a o, H a = some o → H' a = some o
  stop : ∀ (i : Nat) (ν μ : List Addr) (S : Sto) (H : Hp), Af G ν0 μ0 H0 ν μ S H → stays w S = true → i = ts.length → J.stop i H
def tI (G : Wd) (W : WX) (f : Env → M (List Tv × List (Nat × List Tv))) : TI := fun σ H R => ∃ env S ν μ, Rl G env S ν μ σ H ∧ Fin G (Wk W σ) (fun ν μ H q J => ItR G ν μ H q.1 q.2 J) ν μ H (f env S) R
/-! ### comprehensions -/
theorem Fin.calm {α β γ δ : Type} {νb μb : List Addr} {Hb : Hp} {Wc W0 : Value → Option Addr → Hp → Prop} {D : List Addr → List Addr → Hp → α → β → Prop} {D' : List Addr → List Addr → Hp → γ → δ → Prop} {m : M α} {kk : α → M γ} {Q : δ → Hp → Prop}
    (z : Fin G Wc D' νb μb Hb ((calmM m S).bnd kk) Q) : Fin G W0 D ν μ H (m S) fun v H1 => ∃ t S1 ν1 μ1, Af G ν μ H ν1 μ1 S1 H1 ∧ D ν1 μ1 H1 t v ∧ Fin G Wc D' νb μb Hb (kk t S1) Q := by
  unfold calmM at z
  cases e : m S with
  | ok t S1 =>
    rw [e] at z
    exact fun v H1 ν1 μ1 a d => ⟨t, S1, ν1, μ1, a, d, z⟩
  | ex c fs S1 => rw [e] at z; exact z.elim
  | bad => rw [e] at z; exact z.elim
theorem bnd_bnd {α β γ : Type} (r : Rs α) (f : α → M β) (g : β → M γ) : (r.bnd f).bnd g = r.bnd fun x S => (f x S).bnd g := by
  cases r <;> rfl
theorem rs_ret {α : Type} (r : Rs α) : (r.bnd fun x => ret x) = r := by cases r <;> rfl
/-- something that is no place of the store is written -/
theorem StR.side {q : Addr} {o : HO} (s : StR G ν μ S H) (hq : q ∈ ν) (hm : q ∉ μ) : StR G ν μ S (upd H q o) := by
  have k : Kp ν H ν (upd H q o) := .write hq
  refine ⟨s.len, s.nd, s.sub, fun a ha => ?_, fun m u e => ?_⟩
  · by_cases z : a = q
    · rw [z]; exact ⟨o, upd_same⟩
    · obtain ⟨o', e⟩ := s.trk a ha
      exact ⟨o', by rw [upd_ne z]; exact e⟩
  · obtain ⟨a, e1, r⟩ := s.ob m u e
    exact ⟨a, e1, r.kp k (List.prefix_refl _) (upd_ne fun z => hm (by rw [← z]; exact List.mem_of_getElem? e1))⟩
theorem Af.side {q : Addr} {o : HO} (a : Af G ν μ H ν1 μ1 S1 H1) (hq : q ∈ ν1) (hm : q ∉ μ1) (hn : H q = none) : Af G ν μ H ν1 μ1 S1 (upd H1 q o) :=
  ⟨⟨a.kp.sub, a.kp.new, fun b u h e => by rw [upd_ne (ne_of_none e hn)]; exact a.kp.keep b u h e⟩, a.pre, a.st.side hq hm, a.nm, fun b u h e => by rw [upd_ne (ne_of_none e hn)]; exact a.lk b u h e⟩
/-- what is no place stands as it is -/
theorem Af.still {q : Addr} {o : HO} (a : Af G ν μ H ν1 μ1 S1 H1) (hm : q ∉ μ) (e : H q = some o) : q ∉ μ1 ∧ H1 q = some o :=
  ⟨fun z => (a.nm q z).elim hm fun w => absurd (e.symm.trans w) (fun z => nomatch z), a.lk q o hm e⟩
theorem comp_imp {own : List Nat} {tg : Tg} {fi : Env → M (List Tv × List (Nat × List Tv))} {fc : Env → M Bool} {fe : Env → M Tv} {σ : L2.St} {Q : VK} (ho : ∀ i ∈ tg.slots, i ∈ own)
    (z : tL G W (fun env => bnd (fi env) fun q => if q.1.length ≤ lim then compL q.2 tg (wipeE env own) fc fe q.1 else bad) σ H Q) : tLc (tI G W fi) (gT G tg) (tT G W0 fc) (tE G W0 fe) own σ H Q := by
  obtain ⟨env, S, ν, μ, r, z⟩ := z
  refine ⟨env, S, ν, μ, r, (Fin.bnd (D := fun ν μ H q J => ItR G ν μ H q.1 q.2 J) z).mono fun J H1 ⟨q, S1, ν1, μ1, a1, it, z1⟩ D hD => ?_⟩
  obtain ⟨ts, w⟩ := q
  simp only at it z1
  split at z1
  case isFalse => exact z1.elim
  rename_i hlim
  obtain ⟨n1, n2, n3⟩ := new_none a1.st a1.kp hD
  have a2 := Af.place0 (vs := []) a1.st hD
  have nD : D ∉ μ1 := fun m => n1 (a1.st.sub D m)
  refine ⟨fun i m H4 => m = ts.length - i ∧ i ≤ ts.length ∧ ∃ S4 ν4 μ4 acc accv, Af G ν1 μ1 H1 ν4 μ4 S4 H4 ∧ D ∈ ν4 ∧ D ∉ μ4 ∧ H4 D = some (.lst accv) ∧ Dns G ν4 μ4 H4 acc accv ∧ acc.length ≤ i ∧
      Fin G (Wk W σ) (fun ν' μ' H' (ts : List Tv) (v : V) => ∃ p vs, v = .ref p ∧ p ∈ ν' ∧ p ∉ μ' ∧ p ∉ ν ∧ H p = none ∧ H' p = some (.lst vs) ∧ Dns G ν' μ' H' ts vs) ν1 μ1 H1 ((compL w tg (wipeE env own) fc fe (ts.drop i) S4).bnd fun ys => ret (acc ++ ys)) Q, ?_, ?_⟩
  · refine ⟨ts.length, by simp, Nat.zero_le _, S1, _, _, [], [], a2, List.mem_cons_self, nD, upd_same, by simp only [Dns], Nat.le_refl _, ?_⟩
    have e : (fun ys : List Tv => ret (([] : List Tv) ++ ys)) = fun ys => ret ys := rfl
    rw [e, rs_ret]
    exact z1
  rintro i m H4 ⟨rfl, hi, S4, ν4, μ4, acc, accv, a4, m4, m4', hD4, d4, hl4, z4⟩
  by_cases hlt : i < ts.length
  · have e1 : ts.drop i = ts[i] :: ts.drop (i + 1) := List.drop_eq_getElem_cons hlt
    rw [e1] at z4
    simp only [compL] at z4
    split at z4
    case isFalse => exact z4.elim
    rename_i hst
    obtain ⟨hgo, hy⟩ := it.go i ν4 μ4 S4 H4 a4 hst hlt
    refine .inr ⟨hgo, fun H' => ∃ m', m' < ts.length - i ∧ (m' = ts.length - (i + 1) ∧ i + 1 ≤ ts.length ∧ ∃ S4 ν4 μ4 acc accv, Af G ν1 μ1 H1 ν4 μ4 S4 H' ∧ D ∈ ν4 ∧ D ∉ μ4 ∧ H' D = some (.lst accv) ∧ Dns G ν4 μ4 H' acc accv ∧ acc.length ≤ i + 1 ∧
      Fin G (Wk W σ) (fun ν' μ' H' (ts : List Tv) (v : V) => ∃ p vs, v = .ref p ∧ p ∈ ν' ∧ p ∉ μ' ∧ p ∉ ν ∧ H p = none ∧ H' p = some (.lst vs) ∧ Dns G ν' μ' H' ts vs) ν1 μ1 H1 ((compL w tg (wipeE env own) fc fe (ts.drop (i + 1)) S4).bnd fun ys => ret (acc ++ ys)) Q), fun H' h => h, fun x H5 y => ?_⟩
    obtain ⟨t, et, a5, d5, keep⟩ := hy x H5 y
    rw [List.getElem?_eq_getElem hlt] at et
    cases et
    cases es : setTg tg ts[i] (wipeE env own) with
    | none => rw [es] at z4; exact z4.elim
    | some e =>
      rw [es] at z4
      simp only [bnd, bnd_bnd] at z4
      refine ⟨ts[i], wipeE env own, ν4, μ4, e, ((((r.en.af a1).af a4).af a5).wipe own), d5, es, fun σ2 r2 o2 => ⟨(o2 own ho).trans (wipe_wipe fun _ h => h), ?_⟩⟩
      refine ⟨e, S4, ν4, μ4, ⟨a5.st, r2⟩, (Fin.calm (D := DB) z4).mono fun b H6 ⟨b', S6, ν6, μ6, a6, eb, z6⟩ => ?_⟩
      have eb' : b' = b := eb
      subst eb'
      obtain ⟨k6, h6⟩ := a6.still m4' (keep D _ hD4)
      cases b' with
      | false =>
        refine iteF ⟨_, by omega, rfl, hlt, S6, ν6, μ6, acc, accv, (a4.trans a5).trans a6, a6.kp.sub D m4, k6, h6, (d4.af a5).af a6, by omega, ?_⟩
        exact z6
      | true =>
        simp only [if_true, bnd, bnd_bnd] at z6
        refine iteT ⟨e, S6, ν6, μ6, ⟨a6.st, r2.af a6⟩, (Fin.calm (D := DV G) z6).mono fun y H7 ⟨ty, S7, ν7, μ7, a7, dy, z7⟩ => ?_⟩
        obtain ⟨k7, h7⟩ := a7.still k6 h6
        have m7 := a7.kp.sub D (a6.kp.sub D m4)
        have d7 : Dns G ν7 μ7 H7 acc accv := ((d4.af a5).af a6).af a7
        have al : accv.length ≤ i := by rw [← d4.length]; exact hl4
        refine ⟨accv, h7, ?_, _, by omega, rfl, hlt, S7, ν7, μ7, acc ++ [ty], accv ++ [y], Af.side (((a4.trans a5).trans a6).trans a7) m7 k7 hD, m7, k7, upd_same, (d7.append (Dns.one dy)).write m7, by rw [List.length_append]; exact Nat.succ_le_succ hl4, ?_⟩
        · have := lim_le (n := i + 1) (by omega)
          omega
        · have ew : ∀ ys : List Tv, (acc ++ [ty]) ++ ys = acc ++ (ty :: ys) := fun ys => by simp
          have ef : (fun ys : List Tv => ret (acc ++ [ty] ++ ys)) = fun ys => ret (acc ++ (ty :: ys)) := by
            funext ys; rw [ew]
          rw [ef]
          exact z7
  · have e : i = ts.length := by omega
    subst e
    rw [List.drop_length] at z4
    simp only [compL] at z4
    split at z4
    case isFalse => exact z4.elim
    rename_i hst
    refine .inl ⟨it.stop _ _ _ _ _ a4 hst rfl, ?_⟩
    simp only [Rs.bnd] at z4
    rw [List.append_nil] at z4
    exact z4 (.ref D) H4 ν4 μ4 a4 ⟨D, accv, rfl, m4, m4', n2, n3, hD4, d4⟩
end
end Mp
namespace Mp
open PySem L2 PySem.Spec
/-! ### lists and tuples alike: k says which (a list, a tuple) -/
def SqK (k : Bool) (K : PySem.W.Frag) (H : Hp) (a : Addr) (xs : List V) : Prop := match k with
  | true => SqL K H a xs
  | false => SqT K H a xs
def ItK (k : Bool) (h : Heap) (it a : Addr) (i : Nat) : Prop := match k with
  | true => h.IsListIter it a i
  | false => h.IsTupleIter it a i
def HasK (k : Bool) (h : Heap) (a : Addr) (its : Array Value) : Prop := match k with
  | true => h.IsList a its
  | false => h.IsTuple a its
def itO (k : Bool) (a : Addr) : Obj := match k with
  | true => { cls := .type "list_iterator", data := .fields #[.ref a, .int 0 0] }
  | false => { cls := .type "tuple_iterator", data := .fields #[.ref a, .int 0 0] }
section
variable {k k2 : Bool} {X : Cx} {pins : List (Addr × Obj)} {σ : L2.St} {H : Hp} {s : Shared} {a b it : Addr} {xs ys : List V} {h h' : Heap} {i : Nat} {its : Array Value}
theorem SqK.get (I : Inv X pins σ H s) (q : SqK k X.K H a xs) : ∃ us : List Value, Vals xs us ∧ HasK k s.heap a us.toArray := by
  cases k with
  | true => obtain ⟨us, rv, z, _⟩ := I.list q; exact ⟨us, rv, z.isList⟩
  | false => obtain ⟨us, rv, z, _⟩ := I.tuple q; exact ⟨us, rv, z⟩
theorem SqK.same (I : Inv X pins σ H s) (q : SqK k X.K H a xs) (q' : SqK k X.K H a ys) : xs = ys := by
  cases k with
  | true => exact I.list_inj q q'
  | false => exact I.tuple_inj q q'
theorem ItK.at' (z : ItK k h it a i) (f : ∀ o, h.get? it = some o → h'.get? it = some o) : ItK k h' it a i := by
  cases k with
  | true => exact Heap.IsListIter.at z f
  | false => exact Heap.IsTupleIter.at z f
theorem ItK.obj (z : ItK k h it a i) : ∃ o, h.get? it = some o ∧ (∃ c, o.cls = .type c ∧ (c = "list_iterator" ∨ c = "tuple_iterator")) ∧ ∀ v, o.data ≠ .cell v := by
  cases k with
  | true => obtain ⟨o, e, c, d⟩ := z; exact ⟨o, e, ⟨_, c, .inl rfl⟩, fun v q => by rw [d] at q; cases q⟩
  | false => obtain ⟨o, e, c, d⟩ := z; exact ⟨o, e, ⟨_, c, .inr rfl⟩, fun v q => by rw [d] at q; cases q⟩
theorem HasK.obj (z : HasK k h a its) : ∃ o, h.get? a = some o ∧ ∃ c, o.cls = .type c ∧ (c = "list" ∨ c = "tuple") := by
  cases k with
  | true => obtain ⟨o, e, c, _⟩ := z; exact ⟨o, e, _, c, .inl rfl⟩
  | false => obtain ⟨o, e, c, _⟩ := z; exact ⟨o, e, _, c, .inr rfl⟩
theorem HasK.ne_it (z : HasK k h a its) (w : ItK k2 h it b i) : a ≠ it := fun e => by
  subst e
  obtain ⟨o, e1, c, e2, e3⟩ := z.obj
  obtain ⟨o', e4, ⟨c', e5, e6⟩, _⟩ := w.obj
  rw [e1] at e4
  cases e4
  rw [e2] at e5
  cases e5
  rcases e3 with q | q <;> rcases e6 with r | r <;> rw [q] at r <;> exact absurd r (by decide)
theorem drawsK {prog : Program} {w : World} {A : Around} (hh : A.handled = none) (hne : a ≠ it) : Draws prog w A it [it, a] its.size (fun i v => its[i]? = some v) (fun i h => ItK k h it a i ∧ HasK k h a its) := by
  cases k with
  | true => exact Draws.list hh it a hne its
  | false => exact Draws.tuple hh it a hne its
theorem beginsK : Begins (.ref a) (itO k a) (fun h => HasK k h a its) := by
  cases k with
  | true => exact begins_list a its
  | false => exact begins_tuple a its
theorem itK_of (e : h.get? it = some (itO k a)) : ItK k h it a 0 := by
  cases k with
  | true => exact ⟨_, e, rfl, rfl⟩
  | false => exact ⟨_, e, rfl, rfl⟩
end
/-! ### a sequence -/
section
variable {X : Cx} {pins : List (Addr × Obj)} {σ : L2.St} {H : Hp} {s : Shared} {a : Addr} {tg e e2 : Expr} {E : Value → Shared → Prop} {R : It → Hp → Prop}
theorem begin_l {xs : List V} (I : Inv X pins σ H s) (q : SqL X.K H a xs) (r : R (Itl X.K a) H) : wpAny (model X.prog X.w) X.A (pyIter (.ref a)) (PIE X pins σ tg R) E s := by
  obtain ⟨us, _, z, _⟩ := I.list q
  refine wpAny_pyIter_list z.isList ⟨s.heap.objs.size, [s.heap.objs.size], _, Itl X.K a, H, rfl, I.kept (t' := s.toks) (fun _ _ w => Heap.get?_push_of_some _ w), turn_list a _, ⟨_, Heap.get?_push_size _ rfl, rfl, rfl⟩, ?_, r⟩
  intro b hb
  rw [List.mem_singleton.mp hb]
  exact I.fpOk (Nat.le_refl _) I.fresh
theorem begin_t {xs : List V} (I : Inv X pins σ H s) (q : SqT X.K H a xs) (r : R (Itt X.K a) H) : wpAny (model X.prog X.w) X.A (pyIter (.ref a)) (PIE X pins σ tg R) E s := by
  obtain ⟨us, _, z, _⟩ := I.tuple q
  refine wpAny_pyIter_tuple (items := us.toArray) z ⟨s.heap.objs.size, [s.heap.objs.size], _, Itt X.K a, H, rfl, I.kept (t' := s.toks) (fun _ _ w => Heap.get?_push_of_some _ w), turn_tuple a _, ⟨_, Heap.get?_push_size _ rfl, rfl, rfl⟩, ?_, r⟩
  intro b hb
  rw [List.mem_singleton.mp hb]
  exact I.fpOk (Nat.le_refl _) I.fresh
def iAny (K : PySem.W.Frag) (te : TE) : TI := fun σ H R => te σ H fun x H1 => ∃ a xs, x = .ref a ∧ ((SqL K H1 a xs ∧ R (Itl K a) H1) ∨ (SqT K H1 a xs ∧ R (Itt K a) H1))
theorem pi_any {te : TE} (he : PE X e te) : PI X tg e (iAny X.K te) := by
  constructor
  intro pins s σ H R I z
  refine thn (he.run pins s σ H _ I z) fun u s2 ⟨x, H2, I2, rx, a, xs, ex, q⟩ => ?_
  subst ex
  cases rx
  rcases q with ⟨q, r⟩ | ⟨q, r⟩
  · exact begin_l I2 q r
  · exact begin_t I2 q r
/-! ### enumerate -/
def IEn (k : Bool) (K : PySem.W.Frag) (a : Addr) : It :=
  ⟨fun i H => ∃ xs x, SqK k K H a xs ∧ xs[i]? = some x, fun i H v H' => ∃ (T : Addr) (x : V), v = .ref T ∧ H T = none ∧ H' = upd H T (.tup [.int (i : Nat), x]) ∧ ∀ xs, SqK k K H a xs → xs[i]? = some x,
    fun i H => ∃ xs, SqK k K H a xs ∧ xs.length = i⟩
theorem turn_en {P : Program} {w : World} {K : PySem.W.Frag} {k : Bool} {els : List Expr} {kk : Nat} {tp : Pos} (a en it : Addr) :
    Turn P w K (.Tuple els kk tp) (IEn k K a) [en, it] en (fun i h => (∃ old, IsEnum h en it ((i : Nat) : Int) old) ∧ ItK k h it a i ∧ en ≠ it) := by
  have two : ∀ {b : Addr}, b ∈ [en, it] → b = en ∨ b = it := fun hb => by simpa using hb
  constructor
  case mem => simp
  case obj =>
    rintro i h ⟨⟨old, he⟩, hi, _⟩ b hb
    rcases two hb with z | z
    · subst z; exact ⟨_, he, fun v q => nomatch q⟩
    · subst z; obtain ⟨o, e1, _, e2⟩ := hi.obj; exact ⟨o, e1, e2⟩
  case keep =>
    rintro i h h' ⟨⟨old, he⟩, hi, hn⟩ f
    exact ⟨⟨old, f en (by simp) _ he⟩, hi.at' (f it (by simp)), hn⟩
  case item =>
    rintro X rfl rfl rfl calm i pins s σ H E I hf ⟨⟨old, he⟩, hi, hn⟩ ⟨xs, x, hq, hx⟩
    obtain ⟨us, rv, hk⟩ := SqK.get I hq
    have ai := hk.ne_it hi
    have ea : en ≠ a := fun z => by
      subst z
      obtain ⟨o, e1, c, e2, e3⟩ := hk.obj
      have e4 : s.heap.get? en = some _ := he
      rw [e4] at e1
      cases e1
      cases e2
      rcases e3 with z | z <;> exact absurd z (by decide)
    have il : i < us.toArray.size := by
      have := (List.getElem?_eq_some_iff.mp hx).1
      rw [List.size_toArray, ← rv.length]; exact this
    refine wpAny_pyNext_enum_itemC (drawsK (its := us.toArray) (by exact I.ok.hd calm) ai) he ⟨hi, hk⟩ il hn (by simp [hn, ea]) fun u h' tk hu ho hi' hT hsz hkp => ?_
    have el : en < s.heap.objs.size := Heap.lt_size he
    refine ⟨_, rfl, wpAny_letOwnedTupleGo_enum (s := { s with heap := h', toks := tk + 1 }) ho fun h2 he2 sb => ?_⟩
    obtain ⟨u', hu', ru⟩ := rv.get hx
    have eu : u' = u := by
      have : us[i]? = some u := by simpa using hu
      rw [hu'] at this
      exact Option.some.inj this
    subst eu
    have hT2 := (sb.2 _ (Nat.ne_of_gt el)).trans hT
    have new : ObjOk X.prog X.w (upd H s.heap.objs.size (.tup [.int (i : Nat), x])) h2 s.heap.objs.size (.tup [.int (i : Nat), x]) :=
      ⟨show 2 ≤ sizeLine by decide, [.int i tk, u'], .cons ⟨tk, rfl⟩ (.cons ru .nil), ⟨_, hT2, rfl, _, rfl⟩⟩
    have I2 : Inv X pins σ (upd H s.heap.objs.size (.tup [.int (i : Nat), x])) { s with heap := h2, toks := tk + 1 } :=
      I.turnedNew (ch := [en, it]) (fun b ob hb q => by
        have n1 : b ≠ en := fun z => hb (by simp [z])
        have n2 : b ≠ it := fun z => hb (by simp [z])
        exact (sb.2 b n1).trans (hkp b ob n1 n2 q)) hf (Nat.le_refl _) new
    refine ⟨.ref s.heap.objs.size, _, I2, rfl, ⟨_, x, rfl, I.fresh, rfl, fun ys hy => by rw [SqK.same I hy hq]; exact hx⟩, ⟨⟨u', ?_⟩, ?_, hn⟩, fun b hb => ?_⟩
    · have e1 : ((i + 1 : Nat) : Int) = (i : Int) + 1 := by omega
      rw [e1]
      exact he2
    · exact hi'.1.at' fun o q => (sb.2 it (Ne.symm hn)).trans q
    · have bl : b < s.heap.objs.size := by
        rcases two hb with z | z
        · rw [z]; exact el
        · rw [z]; obtain ⟨o, e1, _⟩ := hi.obj; exact Heap.lt_size e1
      rw [upd_ne (Nat.ne_of_lt bl)]
      exact (hf b hb).1
  case done =>
    rintro X rfl rfl rfl calm i pins s σ H E I hf ⟨⟨old, he⟩, hi, hn⟩ ⟨xs, hq, hx⟩
    obtain ⟨us, rv, hk⟩ := SqK.get I hq
    have ei : i = us.toArray.size := by rw [List.size_toArray, ← rv.length, hx]
    subst ei
    refine wpAny_pyNext_enum_endD (drawsK (its := us.toArray) (by exact I.ok.hd calm) (hk.ne_it hi)) he ⟨hi, hk⟩ fun h' hb => ⟨rfl, ?_⟩
    obtain ⟨f0, f1, f2, f3, f4, f5⟩ := hf it (by simp)
    exact I.turned (t' := s.toks) (fun b o hn q => hb b o hn q) f0 f1 f3 f4 f5
  case self =>
    rintro A i s Q E ⟨⟨old, he⟩, _⟩ q
    exact wpAny_pyIter_enum he q
def iEn (K : PySem.W.Frag) (te : TE) : TI := fun σ H R => te σ H fun x H1 => ∃ k a xs, x = .ref a ∧ SqK k K H1 a xs ∧ R (IEn k K a) H1
theorem enumMeets {v : Value} {o : Obj} {Hh : Heap → Prop} (B : Begins v o Hh) :
    Meets (Builtin.«enumerate.__new__» ⟨[.type "enumerate", v], []⟩) (fun _ R s => Hh s.heap ∧
      R (.ok (.ret (.ref (s.heap.push o).objs.size))) { s with heap := (s.heap.push o).push { cls := .type "enumerate", data := .fields #[.none, .bool false, .ref s.heap.objs.size, rawInt 0, .none, .none] } }) :=
  .of_wp fun prog w A R s h => by
    obtain ⟨hp, g, d, tk, os⟩ := s
    obtain ⟨h1, h⟩ := h
    have hsub := sub_enumerate
    have step : ∀ {A' : Around} {E : Value → Shared → Prop} {Q : Value → Shared → Prop}, Q (.ref hp.objs.size) ⟨hp.push o, g, d, tk, os⟩ → wpAny (model prog w) A' (pyIter v) Q E ⟨hp, g, d, tk, os⟩ :=
      fun q => B.iter prog w _ _ ⟨hp, g, d, tk, os⟩ _ h1 q
    wp_walk using step
    refine wpAny_stack_any fun st => wpAny_pure ?_
    split
    · rename_i c _ _ _ _ _
      cases (c == Value.type "enumerate") <;> (wp_walk using step; exact ⟨_, rfl, h⟩)
    · wp_walk using step
      exact ⟨_, rfl, h⟩
theorem enumBegins {A : Around} {v : Value} {o : Obj} {Hh : Heap → Prop} {Q : Value → Shared → Prop} {prog : Program} {w : World} (B : Begins v o Hh) (h1 : Hh s.heap)
    (h : ∀ h', IsEnum h' (s.heap.objs.size + 1) s.heap.objs.size 0 .none → h'.get? s.heap.objs.size = some o → (∀ b u, s.heap.get? b = some u → h'.get? b = some u) → Q (.ref (s.heap.objs.size + 1)) { s with heap := h' }) :
    wpAny (model prog w) A (call (.type "enumerate") [v]) Q E s := by
  refine callType_new F.called_enumerate (by decide) (F.typeCall_enumerate_1 _) (F.newCall_enumerate_1 _) (fun obj => F.args_object_init_2 obj _) F.entry_enumerate_new (enumMeets B) ⟨h1, ?_⟩
  have z1 : (s.heap.push o).objs.size = s.heap.objs.size + 1 := Heap.size_push ..
  show _ ∧ _
  rw [z1]
  have en : IsEnum ((s.heap.push o).push { cls := .type "enumerate", data := .fields #[.none, .bool false, .ref s.heap.objs.size, rawInt 0, .none, .none] }) (s.heap.objs.size + 1) s.heap.objs.size 0 .none := by
    have z2 := Heap.get?_push_size (s.heap.push o) (o := { cls := .type "enumerate", data := .fields #[.none, .bool false, .ref s.heap.objs.size, rawInt 0, .none, .none] }) rfl
    rw [z1] at z2
    exact z2
  exact ⟨⟨_, en, rfl⟩, h _ en (Heap.get?_push_of_some _ (Heap.get?_push_size _ B.free)) fun b u q => Heap.get?_push_of_some _ (Heap.get?_push_of_some _ q)⟩
theorem pi_en {te : TE} {x1 p1 : Pos} {els : List Expr} {kk : Nat} {tp : Pos} (hg : Gl X "enumerate") (hm : X.mg "enumerate" = none) (ns : notStar e = true) (he : PE X e te) :
    PI X (.Tuple els kk tp) (.Call (.Name "enumerate" x1) [e] [] p1) (iEn X.K te) := by
  constructor
  intro pins s σ H R I z
  have hs : starEach [e] X.env = [(false, eval e X.env)] := star_cons ns []
  have hw := thn (he.run pins s σ H _ I z) fun u s2 z2 => z2
  refine PyProof.Rows.Call_ (ld_blt I hg hm PyProof.Rows.boot_enumerate (PyProof.Rows.callWith_type1 (PyProof.Rows.args_cons (thn hw fun u s2 z2 => PyProof.Rows.args_nil ?_) hs) hs rfl))
  obtain ⟨x, H2, I2, rx, k, a, xs, ex, hq, r⟩ := z2
  subst ex
  cases rx
  obtain ⟨us, rv, hk⟩ := SqK.get I2 hq
  refine enumBegins (beginsK (its := us.toArray)) hk fun h' en ho kp => wpAny_pyIter_enum en ?_
  have I3 : Inv X pins σ H2 { s2 with heap := h' } := I2.kept (t' := s2.toks) kp
  refine ⟨s2.heap.objs.size + 1, [s2.heap.objs.size + 1, s2.heap.objs.size], _, _, H2, rfl, I3, turn_en a (s2.heap.objs.size + 1) s2.heap.objs.size, ⟨⟨.none, en⟩, itK_of ho, Nat.succ_ne_self _⟩, fun b hb => ?_, r⟩
  have le : s2.heap.objs.size ≤ b := by
    have : b = s2.heap.objs.size + 1 ∨ b = s2.heap.objs.size := by simpa using hb
    rcases this with w | w
    · rw [w]; exact Nat.le_succ _
    · rw [w]; exact Nat.le_refl _
  exact I2.fpOk le (I2.hok.fresh le)
/-! ### zip -/
def IZp (k k2 : Bool) (K : PySem.W.Frag) (a b : Addr) : It :=
  ⟨fun i H => ∃ (xs ys : List V) (x y : V), SqK k K H a xs ∧ SqK k2 K H b ys ∧ xs[i]? = some x ∧ ys[i]? = some y,
    fun i H v H' => ∃ (T : Addr) (x y : V), v = .ref T ∧ H T = none ∧ H' = upd H T (.tup [x, y]) ∧ (∀ xs, SqK k K H a xs → xs[i]? = some x) ∧ ∀ ys, SqK k2 K H b ys → ys[i]? = some y,
    fun i H => ∃ xs ys : List V, SqK k K H a xs ∧ SqK k2 K H b ys ∧ i ≤ xs.length ∧ i ≤ ys.length ∧ (i = xs.length ∨ i = ys.length)⟩
theorem zsep {z TI TO i1 i2 a b : Addr} (D : ZipApart z TI TO i1 i2 a b) : ZipSep2 z TI TO i1 i2 [i1, a] [i2, b] where
  TIz := D.TIz
  TOz := D.TOz
  TITO := D.TITO
  TIi1 := D.TIi1
  mem1 := by simp
  zf1 := by simp [D.i1z.symm, D.l1z.symm]
  Tf1 := by simp [D.TOi1, D.l1TO.symm]
  TIi2 := D.TIi2
  mem2 := by simp
  zf2 := by simp [D.i2z.symm, D.l2z.symm]
  Tf2 := by simp [D.TOi2, D.l2TO.symm]
  sep1_2 := by simp [D.i12, D.l2i1.symm]
  sep2_1 := by simp [D.i12.symm, D.l1i2.symm]
theorem turn_zp {P : Program} {w : World} {K : PySem.W.Frag} {k k2 : Bool} {els : List Expr} {kk : Nat} {tp : Pos} {a b z TI TO i1 i2 : Addr} (D : ZipApart z TI TO i1 i2 a b) :
    Turn P w K (.Tuple els kk tp) (IZp k k2 K a b) [z, TI, TO, i1, i2] z (fun i h => IsZip h z TI TO .none ∧ IsTupOf2 h TI (.ref i1) (.ref i2) ∧ (∃ x y, IsTupOf2 h TO x y) ∧ ItK k h i1 a i ∧ ItK k2 h i2 b i) := by
  have five : ∀ {c : Addr}, c ∈ [z, TI, TO, i1, i2] → c = z ∨ c = TI ∨ c = TO ∨ c = i1 ∨ c = i2 := fun hc => by simpa using hc
  constructor
  case mem => simp
  case obj =>
    rintro i h ⟨hz, hTI, ⟨x, y, hTO⟩, h1, h2⟩ c hc
    obtain ⟨o1, e1, _, d1⟩ := h1.obj
    obtain ⟨o2, e2, _, d2⟩ := h2.obj
    rcases five hc with rfl | rfl | rfl | rfl | rfl
    · exact ⟨_, hz, fun v q => nomatch q⟩
    · exact ⟨_, hTI, fun v q => nomatch q⟩
    · exact ⟨_, hTO, fun v q => nomatch q⟩
    · exact ⟨o1, e1, d1⟩
    · exact ⟨o2, e2, d2⟩
  case keep =>
    rintro i h h' ⟨hz, hTI, ⟨x, y, hTO⟩, h1, h2⟩ f
    exact ⟨f z (by simp) _ hz, f TI (by simp) _ hTI, ⟨x, y, f TO (by simp) _ hTO⟩, h1.at' (f i1 (by simp)), h2.at' (f i2 (by simp))⟩
  case item =>
    rintro X rfl rfl rfl calm i pins s σ H E I hf ⟨hz, hTI, ⟨x0, y0, hTO⟩, h1, h2⟩ ⟨xs, ys, x, y, hqx, hqy, hx, hy⟩
    obtain ⟨us, rv, k1⟩ := SqK.get I hqx
    obtain ⟨us2, rv2, kb⟩ := SqK.get I hqy
    obtain ⟨u, hu, ru⟩ := rv.get hx
    obtain ⟨u2, hu2, ru2⟩ := rv2.get hy
    have zl : z < s.heap.objs.size := Heap.lt_size hz
    have L1 : i < us.toArray.size := by
      have := (List.getElem?_eq_some_iff.mp hu).1
      simpa using this
    have L2' : i < us2.toArray.size := by
      have := (List.getElem?_eq_some_iff.mp hu2).1
      simpa using this
    refine wpAny_pyNext_zipD2_item (zsep D) (drawsK (its := us.toArray) (by exact I.ok.hd calm) (k1.ne_it h1)) (drawsK (its := us2.toArray) (by exact I.ok.hd calm) (kb.ne_it h2)) hz hTI hTO ⟨h1, k1⟩ ⟨h2, kb⟩ L1 L2' fun v1 v2 h' tk q1 q2 z' TO' h1' h2' hT hsz hk => ?_
    have ev1 : v1 = u := by
      have : us[i]? = some v1 := by simpa using q1
      rw [hu] at this
      exact (Option.some.inj this).symm
    have ev2 : v2 = u2 := by
      have : us2[i]? = some v2 := by simpa using q2
      rw [hu2] at this
      exact (Option.some.inj this).symm
    subst ev1 ev2
    refine ⟨_, rfl, wpAny_letOwnedTupleGo_zip (s := { s with heap := h', toks := tk }) z' fun h3 z3 sb => ?_⟩
    have hT2 := (sb.2 _ (Nat.ne_of_gt zl)).trans hT
    have new : ObjOk X.prog X.w (upd H s.heap.objs.size (.tup [x, y])) h3 s.heap.objs.size (.tup [x, y]) :=
      ⟨show 2 ≤ sizeLine by decide, [v1, v2], .cons ru (.cons ru2 .nil), ⟨_, hT2, rfl, _, rfl⟩⟩
    have I2 : Inv X pins σ (upd H s.heap.objs.size (.tup [x, y])) { s with heap := h3, toks := tk } := by
      refine I.turnedNew (ch := [z, TI, TO, i1, i2]) (fun c o hb q => ?_) hf (Nat.le_refl _) new
      have n1 : c ≠ z := fun w => hb (by simp [w])
      have n2 : c ≠ TO := fun w => hb (by simp [w])
      have n3 : c ≠ i1 := fun w => hb (by simp [w])
      have n4 : c ≠ i2 := fun w => hb (by simp [w])
      exact (sb.2 c n1).trans (hk c o n1 n2 n3 n4 q)
    refine ⟨.ref s.heap.objs.size, _, I2, rfl, ⟨_, x, y, rfl, I.fresh, rfl, fun l hl => by rw [SqK.same I hl hqx]; exact hx, fun l hl => by rw [SqK.same I hl hqy]; exact hy⟩, ⟨z3, ?_, ⟨v1, v2, ?_⟩, ?_, ?_⟩, fun c hc => ?_⟩
    · exact (sb.2 _ D.TIz).trans (hk _ _ D.TIz D.TITO D.TIi1 D.TIi2 hTI)
    · exact (sb.2 _ D.TOz).trans TO'
    · exact h1'.1.at' fun o q => (sb.2 _ D.i1z).trans q
    · exact h2'.1.at' fun o q => (sb.2 _ D.i2z).trans q
    · have cl : c < s.heap.objs.size := by
        rcases five hc with rfl | rfl | rfl | rfl | rfl
        · exact zl
        · exact Heap.lt_size hTI
        · exact Heap.lt_size hTO
        · obtain ⟨_, e1, _⟩ := h1.obj; exact Heap.lt_size e1
        · obtain ⟨_, e1, _⟩ := h2.obj; exact Heap.lt_size e1
      rw [upd_ne (Nat.ne_of_lt cl)]
      exact (hf c hc).1
  case done =>
    rintro X rfl rfl rfl calm i pins s σ H E I hf ⟨hz, hTI, ⟨x0, y0, hTO⟩, h1, h2⟩ ⟨xs, ys, hqx, hqy, le1, le2, hend⟩
    obtain ⟨us, rv, k1⟩ := SqK.get I hqx
    obtain ⟨us2, rv2, kb⟩ := SqK.get I hqy
    have l1 : us.toArray.size = xs.length := by rw [List.size_toArray, rv.length]
    have l2 : us2.toArray.size = ys.length := by rw [List.size_toArray, rv2.length]
    refine wpAny_pyNext_zipD2_end (zsep D) (drawsK (its := us.toArray) (by exact I.ok.hd calm) (k1.ne_it h1)) (drawsK (its := us2.toArray) (by exact I.ok.hd calm) (kb.ne_it h2)) hz hTI hTO ⟨h1, k1⟩ ⟨h2, kb⟩ (by omega) (by omega) (by omega) fun h' tk hk => ⟨rfl, ?_⟩
    refine I.turnedL (ch := [z, TI, TO, i1, i2]) (fun c o hb q => ?_) hf
    exact hk c o (fun w => hb (by simp [w])) (fun w => hb (by simp [w])) (fun w => hb (by simp [w])) (fun w => hb (by simp [w])) q
  case self =>
    rintro A i s Q E ⟨hz, _⟩ q
    exact wpAny_pyIter_zip hz q
def iZp (K : PySem.W.Frag) (ta : TA) : TI := fun σ H R => ta σ H fun vs H1 => ∃ k k2 a b xs ys, vs = [.ref a, .ref b] ∧ SqK k K H1 a xs ∧ SqK k2 K H1 b ys ∧ R (IZp k k2 K a b) H1
theorem pi_zp {ta : TA} {x1 p1 : Pos} {els : List Expr} {kk : Nat} {tp : Pos} (hg : Gl X "zip") (hm : X.mg "zip" = none) (n1 : notStar e = true) (n2 : notStar e2 = true) (ha : PA X [e, e2] ta) :
    PI X (.Tuple els kk tp) (.Call (.Name "zip" x1) [e, e2] [] p1) (iZp X.K ta) := by
  constructor
  intro pins s σ H R I z
  refine PyProof.Rows.Call_ (ld_blt I hg hm PyProof.Rows.boot_zip (PyProof.Rows.callWith_type1 (thn (ha.run p1 pins s σ H _ I z) fun us s2 z2 => ?_) (star_cons n1 [e2]) (star_any (by simp [n2]))))
  obtain ⟨vs, H2, I2, rs, k, k2, a, b, xs, ys, ex, hqx, hqy, r⟩ := z2
  subst ex
  obtain ⟨u, u2, rfl, ru, ru2⟩ := Vals.two rs
  cases ru
  cases ru2
  obtain ⟨w1, rv, k1⟩ := SqK.get I2 hqx
  obtain ⟨w2, rv2, kb⟩ := SqK.get I2 hqy
  obtain ⟨o1, g1, _⟩ := k1.obj
  obtain ⟨o2, g2, _⟩ := kb.obj
  refine zip_begins2 (beginsK (its := w1.toArray)) (beginsK (its := w2.toArray)) k1 kb fun h' hz hTI hTO ho1 ho2 hsz kp => wpAny_pyIter_zip hz ?_
  have I3 : Inv X pins σ H2 { s2 with heap := h' } := I2.kept (t' := s2.toks) kp
  refine ⟨s2.heap.objs.size + 4, [s2.heap.objs.size + 4, s2.heap.objs.size + 2, s2.heap.objs.size + 3, s2.heap.objs.size, s2.heap.objs.size + 1], _, _, H2, rfl, I3,
    turn_zp (PySem.W.ktu_apart s2.heap.objs.size a b (Heap.lt_size g1) (Heap.lt_size g2)), ⟨hz, hTI, ⟨_, _, hTO⟩, itK_of ho1, itK_of ho2⟩, fun c hc => ?_, r⟩
  have le : s2.heap.objs.size ≤ c := by
    have : c = s2.heap.objs.size + 4 ∨ c = s2.heap.objs.size + 2 ∨ c = s2.heap.objs.size + 3 ∨ c = s2.heap.objs.size ∨ c = s2.heap.objs.size + 1 := by simpa using hc
    rcases this with w | w | w | w | w
    · rw [w]; exact Nat.le_add_right _ 4
    · rw [w]; exact Nat.le_add_right _ 2
    · rw [w]; exact Nat.le_add_right _ 3
    · rw [w]; exact Nat.le_refl _
    · rw [w]; exact Nat.le_add_right _ 1
  exact I2.fpOk le (I2.hok.fresh le)
end
end Mp
namespace Mp
open PySem L2 PySem.Spec
section
variable {G : Wd} {n : Nat} {N : List Str} {sc : Scope} {W W0 : WX} {X : Cx} {a b c e tg : Expr} {es : List Expr} {pos p p1 p2 p3 : Pos} {f h k : Env → M Tv} {ft ht kt : Env → M Bool} {fs hs : Env → M (List Tv)}
  {ν μ ν' μ' ν1 μ1 ν0 μ0 : List Addr} {H H' H1 H0 : Hp} {S S' S0 : Sto}
/-! ### what is gone through stands still -/
theorem src_at {t : Tv} {v : V} {ts : List Tv} {w : List (Nat × List Tv)} (st : StR G ν0 μ0 S0 H0) (d : Dn G ν0 μ0 H0 t v) (e : srcOf S0 t = some (ts, w)) :
    ∃ (a : Addr) (k : Bool), v = .ref a ∧ ∀ ν μ S H, Af G ν0 μ0 H0 ν μ S H → stays w S = true → ∃ xs, SqK k G.K H a xs ∧ Dns G ν μ H ts xs := by
  cases t with
  | tup us =>
    cases e
    have d0 := d
    simp only [Dn] at d
    obtain ⟨a, vs, rfl, _⟩ := d
    refine ⟨a, false, rfl, fun ν μ S H af _ => ?_⟩
    have d1 := d0.af af
    simp only [Dn] at d1
    obtain ⟨a', vs, ea, fz, d1⟩ := d1
    cases ea
    exact ⟨vs, fz.sq, d1⟩
  | lst us =>
    cases e
    have d0 := d
    simp only [Dn] at d
    obtain ⟨a, vs, rfl, _⟩ := d
    refine ⟨a, true, rfl, fun ν μ S H af _ => ?_⟩
    have d1 := d0.af af
    simp only [Dn] at d1
    obtain ⟨a', vs, ea, fz, d1⟩ := d1
    cases ea
    exact ⟨vs, fz.sq, d1⟩
  | cell m =>
    simp only [srcOf] at e
    split at e
    · rename_i us hm
      cases e
      obtain ⟨q, vs, rfl, hq, _, _⟩ := cell_at st d hm
      refine ⟨q, true, rfl, fun ν μ S H af hw => ?_⟩
      have hw' : S[m]? = some (.lst ts) := by simpa [stays] using hw
      obtain ⟨q', ws, eq, _, h2, h3⟩ := cell_at af.st (d.af af) hw'
      cases eq
      exact ⟨ws, .inl (.inl h2), h3⟩
    · cases e
  | _ => cases e
theorem Dns.back {ts : List Tv} {xs : List V} {i : Nat} {x : V} (d : Dns G ν μ H ts xs) (e : xs[i]? = some x) : ∃ t, ts[i]? = some t ∧ Dn G ν μ H t x := by
  have hl : i < ts.length := by rw [d.length]; exact (List.getElem?_eq_some_iff.mp e).1
  obtain ⟨v, e1, d1⟩ := d.get (List.getElem?_eq_getElem hl)
  rw [e] at e1
  cases e1
  exact ⟨_, List.getElem?_eq_getElem hl, d1⟩
theorem itr_seq {ts : List Tv} {w : List (Nat × List Tv)} {a : Addr} {k : Bool} (z : ∀ ν μ S H, Af G ν0 μ0 H0 ν μ S H → stays w S = true → ∃ xs, SqK k G.K H a xs ∧ Dns G ν μ H ts xs) :
    ItR G ν0 μ0 H0 ts w (match k with | true => Itl G.K a | false => Itt G.K a) := by
  cases k with
  | true =>
    refine ⟨fun i ν μ S H af hw hi => ?_, fun i ν μ S H af hw hi => ?_⟩
    · obtain ⟨xs, hq, d⟩ := z _ _ _ _ af hw
      have hl : i < xs.length := by rw [← d.length]; exact hi
      refine ⟨⟨xs, _, hq, List.getElem?_eq_getElem hl⟩, fun x H' y => ?_⟩
      obtain ⟨e, y⟩ := y
      subst e
      obtain ⟨t, e1, d1⟩ := d.back (y xs hq)
      exact ⟨t, e1, .refl af.st, d1, fun _ _ q => q⟩
    · obtain ⟨xs, hq, d⟩ := z _ _ _ _ af hw
      exact ⟨xs, hq, by rw [← d.length, hi]; exact Nat.le_refl _⟩
  | false =>
    refine ⟨fun i ν μ S H af hw hi => ?_, fun i ν μ S H af hw hi => ?_⟩
    · obtain ⟨xs, hq, d⟩ := z _ _ _ _ af hw
      have hl : i < xs.length := by rw [← d.length]; exact hi
      refine ⟨⟨xs, _, hq, List.getElem?_eq_getElem hl⟩, fun x H' y => ?_⟩
      obtain ⟨e, y⟩ := y
      subst e
      obtain ⟨t, e1, d1⟩ := d.back (y xs hq)
      exact ⟨t, e1, .refl af.st, d1, fun _ _ q => q⟩
    · obtain ⟨xs, hq, d⟩ := z _ _ _ _ af hw
      exact ⟨xs, hq, by rw [← d.length, hi]; exact Nat.le_refl _⟩
theorem enumT_get : ∀ {ts : List Tv} {j : Int} {i : Nat} {t : Tv}, ts[i]? = some t → (enumT j ts)[i]? = some (.tup [.int (j + i), t])
  | [], _, _, _, h => by simp at h
  | x :: r, j, 0, t, h => by simp at h; subst h; simp [enumT]
  | x :: r, j, i + 1, t, h => by
    have q := enumT_get (j := j + 1) (i := i) (t := t) (by simpa using h)
    simp only [enumT, List.getElem?_cons_succ, q]
    have e : j + 1 + (i : Int) = j + ((i + 1 : Nat) : Int) := by omega
    rw [e]
theorem enumT_len : ∀ {ts : List Tv} {j : Int}, (enumT j ts).length = ts.length
  | [], _ => rfl
  | x :: r, j => by simp only [enumT, List.length_cons, enumT_len]
theorem pair_dn {x y : V} {t u : Tv} {T : Addr} (s : StR G ν μ S H) (hT : H T = none) (d1 : Dn G ν μ H t x) (d2 : Dn G ν μ H u y) : Dn G ν μ (upd H T (.tup [x, y])) (.tup [t, u]) (.ref T) :=
  Dn.tup (s.fresh hT) upd_same (Dns.kp (.new1 hT) (List.prefix_refl _) _ _ (Dns.two d1 d2))
theorem itr_en {ts : List Tv} {w : List (Nat × List Tv)} {a : Addr} {k : Bool} (z : ∀ ν μ S H, Af G ν0 μ0 H0 ν μ S H → stays w S = true → ∃ xs, SqK k G.K H a xs ∧ Dns G ν μ H ts xs) : ItR G ν0 μ0 H0 (enumT 0 ts) w (IEn k G.K a) := by
  refine ⟨fun i ν μ S H af hw hi => ?_, fun i ν μ S H af hw hi => ?_⟩
  · obtain ⟨xs, hq, d⟩ := z _ _ _ _ af hw
    have hl : i < xs.length := by rw [← d.length, ← enumT_len (j := 0)]; exact hi
    refine ⟨⟨xs, _, hq, List.getElem?_eq_getElem hl⟩, fun v H' y => ?_⟩
    obtain ⟨T, x, rfl, hT, rfl, y⟩ := y
    obtain ⟨t, e1, d1⟩ := d.back (y xs hq)
    refine ⟨_, enumT_get e1, .new1 af.st hT, ?_, fun b o q => by rw [upd_ne (ne_of_none q hT)]; exact q⟩
    rw [show (0 : Int) + (i : Int) = (i : Nat) by omega]
    exact pair_dn af.st hT dn_int d1
  · obtain ⟨xs, hq, d⟩ := z _ _ _ _ af hw
    exact ⟨xs, hq, by rw [← d.length, hi, enumT_len]⟩
theorem zipT_get : ∀ {ts us : List Tv} {i : Nat} {t u : Tv}, ts[i]? = some t → us[i]? = some u → (zipT ts us)[i]? = some (.tup [t, u])
  | [], _, _, _, _, h, _ => by simp at h
  | _ :: _, [], _, _, _, _, h => by simp at h
  | x :: r, y :: s, 0, t, u, h, h' => by simp at h h'; subst h h'; simp [zipT]
  | x :: r, y :: s, i + 1, t, u, h, h' => by
    simp only [zipT, List.getElem?_cons_succ]
    exact zipT_get (by simpa using h) (by simpa using h')
theorem zipT_len : ∀ {ts us : List Tv}, (zipT ts us).length = min ts.length us.length
  | [], us => by simp [zipT]
  | _ :: _, [] => by simp [zipT]
  | x :: r, y :: s => by simp only [zipT, List.length_cons, zipT_len]; omega
theorem stays_app {u w : List (Nat × List Tv)} (h : stays (u ++ w) S = true) : stays u S = true ∧ stays w S = true := by
  unfold stays at h ⊢
  rw [List.all_append, Bool.and_eq_true] at h
  exact h
theorem itr_zip {ts us : List Tv} {w w2 : List (Nat × List Tv)} {a b : Addr} {k k2 : Bool} (z : ∀ ν μ S H, Af G ν0 μ0 H0 ν μ S H → stays w S = true → ∃ xs, SqK k G.K H a xs ∧ Dns G ν μ H ts xs)
    (z2 : ∀ ν μ S H, Af G ν0 μ0 H0 ν μ S H → stays w2 S = true → ∃ xs, SqK k2 G.K H b xs ∧ Dns G ν μ H us xs) : ItR G ν0 μ0 H0 (zipT ts us) (w ++ w2) (IZp k k2 G.K a b) := by
  refine ⟨fun i ν μ S H af hw hi => ?_, fun i ν μ S H af hw hi => ?_⟩
  · obtain ⟨xs, hq, d⟩ := z _ _ _ _ af (stays_app hw).1
    obtain ⟨ys, hr, d2⟩ := z2 _ _ _ _ af (stays_app hw).2
    rw [zipT_len, d.length, d2.length] at hi
    have hl : i < xs.length := by omega
    have hl2 : i < ys.length := by omega
    refine ⟨⟨xs, ys, _, _, hq, hr, List.getElem?_eq_getElem hl, List.getElem?_eq_getElem hl2⟩, fun v H' y => ?_⟩
    obtain ⟨T, x, y', rfl, hT, rfl, f1, f2⟩ := y
    obtain ⟨t, e1, d1⟩ := d.back (f1 xs hq)
    obtain ⟨u, e2, d3⟩ := d2.back (f2 ys hr)
    exact ⟨_, zipT_get e1 e2, .new1 af.st hT, pair_dn af.st hT d1 d3, fun b o q => by rw [upd_ne (ne_of_none q hT)]; exact q⟩
  · obtain ⟨xs, hq, d⟩ := z _ _ _ _ af (stays_app hw).1
    obtain ⟨ys, hr, d2⟩ := z2 _ _ _ _ af (stays_app hw).2
    rw [zipT_len, d.length, d2.length] at hi
    exact ⟨xs, ys, hq, hr, by omega, by omega, by omega⟩
theorem rngT_get : ∀ {m : Nat} {j : Int} {i : Nat}, i < m → (rngT j m)[i]? = some (.int (j + i))
  | 0, _, _, h => by omega
  | m + 1, j, 0, h => by simp [rngT]
  | m + 1, j, i + 1, h => by
    simp only [rngT, List.getElem?_cons_succ]
    rw [rngT_get (by omega)]
    have e : j + 1 + (i : Int) = j + ((i + 1 : Nat) : Int) := by omega
    rw [e]
theorem rngT_len : ∀ {m : Nat} {j : Int}, (rngT j m).length = m
  | 0, _ => rfl
  | m + 1, j => by simp only [rngT, List.length_cons, rngT_len]
theorem itr_rng {j : Int} {m : Nat} : ItR G ν0 μ0 H0 (rngT j m) [] (Itr j m) := by
  refine ⟨fun i ν μ S H af hw hi => ?_, fun i ν μ S H af hw hi => ?_⟩
  · rw [rngT_len] at hi
    refine ⟨hi, fun v H' y => ?_⟩
    obtain ⟨rfl, rfl⟩ := y
    exact ⟨_, rngT_get hi, .refl af.st, dn_int, fun _ _ q => q⟩
  · rw [rngT_len] at hi
    exact Nat.le_of_eq hi.symm
theorem tA_two {γ δ : Type} {D' : List Addr → List Addr → Hp → γ → δ → Prop} {kk : Tv → Tv → M γ} {R : δ → Hp → Prop} {P : List V → Hp → Prop} {σ : L2.St} {env : Env} (r : Rl G env S ν μ σ H)
    (z : Fin G (Wk W σ) D' ν μ H (bnd (f env) (fun x => bnd (h env) fun y => kk x y) S) R)
    (q : ∀ (t u : Tv) (S2 : Sto) (ν2 μ2 : List Addr) (H2 : Hp) (v w : V), Af G ν μ H ν2 μ2 S2 H2 → Dn G ν2 μ2 H2 t v → Dn G ν2 μ2 H2 u w → Fin G (Wk W σ) D' ν2 μ2 H2 (kk t u S2) R → P [v, w] H2) :
    tA G W (fun env => bnd (f env) fun x => bnd (bnd (h env) fun x => bnd (ret []) fun xs => ret (x :: xs)) fun xs => ret (x :: xs)) σ H P := by
  refine ⟨env, S, ν, μ, r, ?_⟩
  simp only [bnd] at z ⊢
  cases e1 : f env S with
  | bad => rw [e1] at z; exact z.elim
  | ex c fs S1 => rw [e1] at z; exact z
  | ok t S1 =>
    rw [e1] at z
    simp only [Rs.bnd, bnd] at z ⊢
    cases e2 : h env S1 with
    | bad => rw [e2] at z; exact z.elim
    | ex c fs S1 => rw [e2] at z; exact z
    | ok u S2 =>
      rw [e2] at z
      simp only [Rs.bnd, ret] at z ⊢
      intro vs H2 ν2 μ2 a2 d2
      obtain ⟨v, w, rfl, d3, d4⟩ := Dns.un2 d2
      exact q t u S2 ν2 μ2 H2 v w a2 d3 d4 (Fin.after a2 z)
/-! ### the readings -/
theorem s_iseq (g : Gd G n N sc W X) (ha : PE X a (tE G W f)) : PI X tg a (tI G W fun env => bnd (f env) fun x S => opt (srcOf S x) S) := by
  refine PI.imp (pi_any ha) fun σ H R ⟨env, S, ν, μ, r, z⟩ => ?_
  refine ⟨env, S, ν, μ, r, (Fin.bnd (D := DV G) z).mono fun v H1 ⟨t, S1, ν1, μ1, a1, d1, z⟩ => ?_⟩
  obtain ⟨q, e, z⟩ := z.opt
  obtain ⟨ts, w⟩ := q
  obtain ⟨q, k, rfl, y⟩ := src_at a1.st d1 e
  have hs : stays w S1 = true := by
    cases t with
    | cell m =>
      simp only [srcOf] at e
      split at e
      · rename_i us hm; cases e; simp [stays, hm]
      · cases e
    | tup _ => cases e; rfl
    | lst _ => cases e; rfl
    | _ => cases e
  obtain ⟨xs, hq, _⟩ := y _ _ _ _ (.refl a1.st) hs
  have hit := itr_seq y
  rw [g.iw.K]
  cases k with
  | true => exact ⟨q, xs, rfl, .inl ⟨hq, z _ _ _ _ (.refl a1.st) hit⟩⟩
  | false => exact ⟨q, xs, rfl, .inr ⟨hq, z _ _ _ _ (.refl a1.st) hit⟩⟩
theorem stays0 {t : Tv} {ts : List Tv} {w : List (Nat × List Tv)} (e : srcOf S t = some (ts, w)) : stays w S = true := by
  cases t with
  | cell m =>
    simp only [srcOf] at e
    split at e
    · rename_i us hm; cases e; simp [stays, hm]
    · cases e
  | tup _ => cases e; rfl
  | lst _ => cases e; rfl
  | _ => cases e
theorem s_ienum {els : List Expr} {kk : Nat} {tp : Pos} (g : Gd G n N sc W X) (hg : Gl X "enumerate") (hm : G.mg "enumerate" = none) (ns : notStar a = true) (ha : PE X a (tE G W f)) :
    PI X (.Tuple els kk tp) (.Call (.Name "enumerate" p) [a] [] pos) (tI G W fun env => bnd (f env) fun x S => match srcOf S x with
      | some (xs, u) => .ok (enumT 0 xs, u) S
      | none => .bad) := by
  refine PI.imp (pi_en hg (by rw [g.iw.mg]; exact hm) ns ha) fun σ H R ⟨env, S, ν, μ, r, z⟩ => ?_
  refine ⟨env, S, ν, μ, r, (Fin.bnd (D := DV G) z).mono fun v H1 ⟨t, S1, ν1, μ1, a1, d1, z⟩ => ?_⟩
  cases e : srcOf S1 t with
  | none => simp only [e] at z; exact z.elim
  | some q =>
    obtain ⟨ts, w⟩ := q
    simp only [e] at z
    obtain ⟨q, k, rfl, y⟩ := src_at a1.st d1 e
    obtain ⟨xs, hq, _⟩ := y _ _ _ _ (.refl a1.st) (stays0 e)
    rw [g.iw.K]
    exact ⟨k, q, xs, rfl, hq, z _ _ _ _ (.refl a1.st) (itr_en y)⟩
theorem s_izip {els : List Expr} {kk : Nat} {tp : Pos} (g : Gd G n N sc W X) (hg : Gl X "zip") (hm : G.mg "zip" = none) (n1 : notStar a = true) (n2 : notStar b = true) (ha : PE X a (tE G W f)) (hb : PE X b (tE G W h)) :
    PI X (.Tuple els kk tp) (.Call (.Name "zip" p) [a, b] [] pos) (tI G W fun env => bnd (f env) fun x => bnd (h env) fun y S => match srcOf S x, srcOf S y with
      | some (xs, u), some (ys, v) => .ok (zipT xs ys, u ++ v) S
      | _, _ => .bad) := by
  refine PI.imp (pi_zp hg (by rw [g.iw.mg]; exact hm) n1 n2 (s_cons n1 ha (s_cons n2 hb s_nil))) fun σ H R ⟨env, S, ν, μ, r, z⟩ => ?_
  refine tA_two r z fun t u S2 ν2 μ2 H2 v w a2 d3 d4 z => ?_
  cases e3 : srcOf S2 t with
  | none => simp only [e3] at z; exact z.elim
  | some q3 =>
    cases e4 : srcOf S2 u with
    | none => simp only [e3, e4] at z; exact z.elim
    | some q4 =>
      simp only [e3, e4] at z
      obtain ⟨ts, w3⟩ := q3
      obtain ⟨us, w4⟩ := q4
      obtain ⟨q, k, rfl, y⟩ := src_at a2.st d3 e3
      obtain ⟨q', k', rfl, y'⟩ := src_at a2.st d4 e4
      obtain ⟨xs, hq, _⟩ := y _ _ _ _ (.refl a2.st) (stays0 e3)
      obtain ⟨ys, hq', _⟩ := y' _ _ _ _ (.refl a2.st) (stays0 e4)
      rw [g.iw.K]
      exact ⟨k, k', q, q', xs, ys, rfl, hq, hq', z _ _ _ _ (.refl a2.st) (itr_zip y y')⟩
theorem s_irng (g : Gd G n N sc W X) (hg : Gl X "range") (hm : G.mg "range" = none) (n1 : notStar a = true) (ha : PE X a (tE G W f)) :
    PI X tg (.Call (.Name "range" p) [a] [] pos) (tI G W fun env => bnd (f env) fun x => match x with
      | .int i => if -1000000 < i ∧ i < 1000000 then ret (rngT 0 i.toNat, []) else bad
      | _ => bad) := by
  refine PI.imp (pi_range1 hg (by rw [g.iw.mg]; exact hm) (pa_one n1 ha) (star_cons n1 [])) fun σ H R ⟨env, S, ν, μ, r, z⟩ => ?_
  refine tA_one r ((Fin.bnd (D := DV G) z).mono fun v H1 ⟨t, S1, ν1, μ1, a1, d1, z⟩ => ?_)
  cases t with
  | int i =>
    simp only [Dn] at d1
    subst d1
    simp only at z
    split at z
    · exact ⟨i, rfl, by omega, by omega, z _ _ _ _ (.refl a1.st) itr_rng⟩
    · exact z.elim
  | _ => exact z.elim
theorem s_irng2 (g : Gd G n N sc W X) (hg : Gl X "range") (hm : G.mg "range" = none) (n1 : notStar a = true) (n2 : notStar b = true) (ha : PE X a (tE G W f)) (hb : PE X b (tE G W h)) :
    PI X tg (.Call (.Name "range" p) [a, b] [] pos) (tI G W fun env => bnd (f env) fun x => bnd (h env) fun y => match x, y with
      | .int i, .int j => if (-1000000 < i ∧ i < 1000000) ∧ -1000000 < j ∧ j < 1000000 then ret (rngT i (j - i).toNat, []) else bad
      | _, _ => bad) := by
  refine PI.imp (pi_range2 hg (by rw [g.iw.mg]; exact hm) (s_cons n1 ha (s_cons n2 hb s_nil)) (by rw [star_cons n1, star_cons n2]; rfl) (by rw [star_cons n2]; rfl)) fun σ H R ⟨env, S, ν, μ, r, z⟩ => ?_
  refine tA_two r z fun t u S2 ν2 μ2 H2 v w a2 d3 d4 z => ?_
  cases t with
  | int i =>
    cases u with
    | int j =>
      simp only [Dn] at d3 d4
      subst d3 d4
      simp only at z
      split at z
      · exact ⟨i, j, rfl, ⟨by omega, by omega, by omega, by omega⟩, z _ _ _ _ (.refl a2.st) itr_rng⟩
      · exact z.elim
    | _ => exact z.elim
  | _ => exact z.elim
end
end Mp
namespace Mp
open PySem L2 PySem.Spec
section
variable {G : Wd} {n : Nat} {N : List Str} {sc : Scope} {W W0 : WX} {X : Cx} {a b c e tg elt iter : Expr} {es : List Expr} {pos p p1 p2 p3 : Pos} {f h k : Env → M Tv} {ft ht kt : Env → M Bool} {fs hs : Env → M (List Tv)}
  {ν μ ν' μ' ν1 μ1 ν0 μ0 : List Addr} {H H' H1 H0 : Hp} {S S' S0 : Sto}
abbrev WN : WX := fun _ _ _ _ => False
/-- a comprehension's block -/
theorem Gd.blk (g : Gd G n N sc W X) (scope : Scope) (s : Shared) (H : Hp) (C : Addr) (cl : List (Str × Addr)) (fp : List Addr) : Gd G n N (relS scope sc) WN (X.blk s H scope (compEnvC scope cl C X.env) fp) :=
  ⟨⟨g.iw.P, g.iw.w, g.iw.K, g.iw.mg, g.iw.base, g.iw.gd⟩, g.nms, by rw [← g.sc]; rfl, g.nd, g.calm, g.room, takes0, g.sys⟩
theorem fold_no (h : notSet iter = true) {env : PySem.Env} (x : Value) : foldedSetIterable iter env x = pure x := by
  cases iter <;> first | rfl | cases h
theorem PTs.imp {ifs : List Expr} {t t' : TT} (h : PTs X ifs t) (i : ∀ σ H Q, t' σ H Q → t σ H Q) : PTs X ifs t' := ⟨fun pins s σ H Q I q => h.run pins s σ H Q I (i σ H Q q)⟩
theorem s_pts0 : PTs X [] (tT G W fun _ => ret true) := PTs.imp pts_nil fun σ H Q ⟨env, S, ν, μ, r, z⟩ => Fin.ok z r.st rfl
theorem s_pts1 (hc : PT X c (tT G W ft)) : PTs X [c] (tT G W ft) := pts_one hc
abbrev lcM (own : List Nat) (tg : Tg) (fi : Env → M (List Tv × List (Nat × List Tv))) (fc : Env → M Bool) (fe : Env → M Tv) : Env → M (List Tv) :=
  fun env => bnd (fi env) fun q => if q.1.length ≤ lim then compL q.2 tg (wipeE env own) fc fe q.1 else bad
/-- what a comprehension's parts are -/
structure LcR (G : Wd) (n : Nat) (N : List Str) (sc : Scope) (X : Cx) (elt tg iter : Expr) (ifs : List Expr) (scope : Scope) (own : List (Str × Nat)) (W : WX) (tgt : Tg) (fi : Env → M (List Tv × List (Nat × List Tv))) (fc : Env → M Bool) (fe : Env → M Tv) : Prop where
  hi : PI X tg iter (tI G W fi)
  ok : blkC N sc scope own = true
  hg : ∀ Y, Gd G n N (relS scope sc) WN Y → (∀ x, (scope.names.lookup x == some .cell) = true → Y.fn x = true) → PG Y tg (gT G tgt)
  ht : ∀ Y, Gd G n N (relS scope sc) WN Y → PTs Y ifs (tT G WN fc)
  he : ∀ Y, Gd G n N (relS scope sc) WN Y → PE Y elt (tE G WN fe)
  ho : ∀ i ∈ tgt.slots, i ∈ own.map (·.2)
  ns : notSet iter = true
theorem s_lc {ifs : List Expr} {scope : Scope} {own : List (Str × Nat)} {tgt : Tg} {fi : Env → M (List Tv × List (Nat × List Tv))} {fc : Env → M Bool} {fe : Env → M Tv} (g : Gd G n N sc W X) (l : LcR G n N sc X elt tg iter ifs scope own W tgt fi fc fe) :
    PE X (.ListComp elt [⟨tg, iter, ifs, 0⟩] scope pos) (tL G W (lcM (own.map (·.2)) tgt fi fc fe)) := by
  refine PE.imp (pe_lc (own := own) g.calm (by rw [g.nms]; exact g.nd) l.hi (by rw [g.nms, g.sc]; exact blkOk_by l.ok) (fun s H C cl fp => l.hg _ (g.blk scope s H C cl fp) fun x hx => hx)
    (fun s H C cl fp => l.ht _ (g.blk scope s H C cl fp)) (fun s H C cl fp => l.he _ (g.blk scope s H C cl fp)) (fold_no l.ns)) fun σ H Q z => comp_imp l.ho z
/-! ### isinstance -/
theorem truth_bool (m : M Bool) : (bnd (bnd m fun b => ret (.bl b)) truthM) = m := by
  funext S
  simp only [bnd]
  cases m S <;> rfl
/-- the classes' own facts, for isinstance -/
structure ClsF (G : Wd) (C : Addr) : Prop where
  cl : Cls G.K C
  ha : PySem.W.findIn G.K (.ref C) "__class__" = some (some (.builtin "object.__class__"))
  hn : PySem.W.specialIn G.K (.builtin "object.__class__") "__get__" = some (some (.builtin "getset_descriptor.__get__"))
  ht : PySem.W.takesIn G.K (.builtin "object.__class__") = some true
  hm : PySem.W.mroIn G.K C (.type "object") = some true
def Kd.ty : Kd → String
  | .int => "int"
  | .bool => "bool"
  | .tuple => "tuple"
  | .str => "str"
  | .list => "list"
  | .cls _ => ""
/-- the kind as a value, and what is to be known of it -/
def KdV (G : Wd) : Kd → V → Prop
  | .cls c, v => ∃ C, v = .ref C ∧ G.mg (G.cls c).1 = some (.ref C) ∧ (∀ T, T = "NoneType" ∨ T = "bool" ∨ T = "int" ∨ T = "str" ∨ T = "tuple" ∨ T = "list" ∨ T = "dict" → PySem.W.kitOne G.K (.type T) (.ref C) = some false) ∧
      ∀ c' C', G.mg (G.cls c').1 = some (.ref C') → ClsF G C' ∧ PySem.W.kitOne G.K (.ref C') (.ref C) = some (decide (c' = c))
  | k, v => v = .ty k.ty ∧ ∀ c C, G.mg (G.cls c).1 = some (.ref C) → ClsF G C ∧ PySem.W.kitOne G.K (.ref C) (.type k.ty) = some false
theorem kdB (k : Kd) (hk : ∀ c, k ≠ .cls c) : kitB "NoneType" k.ty = some false ∧ kitB "bool" k.ty = some (decide (k = .int ∨ k = .bool)) ∧ kitB "int" k.ty = some (decide (k = .int)) ∧ kitB "str" k.ty = some (decide (k = .str)) ∧
    kitB "tuple" k.ty = some (decide (k = .tuple)) ∧ kitB "list" k.ty = some (decide (k = .list)) ∧ kitB "dict" k.ty = some false := by
  cases k with
  | cls c => exact absurd rfl (hk c)
  | _ => decide +kernel
theorem kdv_ty {kd : Kd} {kv : V} (hk : ∀ c, kd ≠ .cls c) (kk : KdV G kd kv) : kv = .ty kd.ty ∧ ∀ c C, G.mg (G.cls c).1 = some (.ref C) → ClsF G C ∧ PySem.W.kitOne G.K (.ref C) (.type kd.ty) = some false := by
  cases kd with
  | cls c => exact absurd rfl (hk c)
  | _ => exact kk
theorem isi_one (d : Dn G ν μ H t v) (st : StR G ν μ S H) {kd : Kd} {kv : V} (kk : KdV G kd kv) {b : Bool} (e : isiV kd S t = some b) :
    ∃ (ty u : Value), ClsV kv u ∧ TyX G.K H v ty ∧ PySem.W.kitOne G.K ty u = some b := by
  have base : ∃ u, ClsV kv u ∧ (∀ (T : String) (r : Bool), (T, r) ∈ [("NoneType", false), ("bool", decide (kd = .int ∨ kd = .bool)), ("int", decide (kd = .int)), ("str", decide (kd = .str)), ("tuple", decide (kd = .tuple)), ("list", decide (kd = .list)), ("dict", false)] → PySem.W.kitOne G.K (.type T) u = some r) ∧
      ∀ c C, G.mg (G.cls c).1 = some (.ref C) → ClsF G C ∧ PySem.W.kitOne G.K (.ref C) u = some (decide (kd = .cls c)) := by
    by_cases hk : ∃ c, kd = .cls c
    · obtain ⟨c, rfl⟩ := hk
      obtain ⟨C, rfl, h1, h2, h3⟩ := kk
      refine ⟨.ref C, .own C, fun T r hm => ?_, fun c' C' hc => ?_⟩
      · simp only [List.mem_cons, Prod.mk.injEq, List.not_mem_nil, or_false] at hm
        rcases hm with ⟨rfl, rfl⟩ | ⟨rfl, rfl⟩ | ⟨rfl, rfl⟩ | ⟨rfl, rfl⟩ | ⟨rfl, rfl⟩ | ⟨rfl, rfl⟩ | ⟨rfl, rfl⟩ <;> exact h2 _ (by simp)
      · obtain ⟨f1, f2⟩ := h3 c' C' hc
        refine ⟨f1, f2.trans ?_⟩
        congr 1
        simp [eq_comm]
    · have hk' : ∀ c, kd ≠ .cls c := fun c z => hk ⟨c, z⟩
      obtain ⟨rfl, h1⟩ := kdv_ty hk' kk
      obtain ⟨b1, b2, b3, b4, b5, b6, b7⟩ := kdB kd hk'
      refine ⟨_, .ty _, fun T r hm => ?_, fun c' C' hc => ?_⟩
      · simp only [List.mem_cons, Prod.mk.injEq, List.not_mem_nil, or_false] at hm
        rcases hm with ⟨rfl, rfl⟩ | ⟨rfl, rfl⟩ | ⟨rfl, rfl⟩ | ⟨rfl, rfl⟩ | ⟨rfl, rfl⟩ | ⟨rfl, rfl⟩ | ⟨rfl, rfl⟩
        · exact kit_ty b1
        · exact kit_ty b2
        · exact kit_ty b3
        · exact kit_ty b4
        · exact kit_ty b5
        · exact kit_ty b6
        · exact kit_ty b7
      · obtain ⟨f1, f2⟩ := h1 c' C' hc
        exact ⟨f1, f2.trans (by rw [decide_eq_false (hk' c')])⟩
  obtain ⟨u, cu, hb, hc⟩ := base
  cases t with
  | non => cases e; simp only [Dn] at d; subst d; exact ⟨_, u, cu, .base .non, hb _ _ (by simp)⟩
  | bl y => cases e; simp only [Dn] at d; subst d; exact ⟨_, u, cu, .base (.bl y), hb _ _ (by simp)⟩
  | int y => cases e; simp only [Dn] at d; subst d; exact ⟨_, u, cu, .base (.int y), hb _ _ (by simp)⟩
  | str y => cases e; simp only [Dn] at d; subst d; exact ⟨_, u, cu, .base (.str y), hb _ _ (by simp)⟩
  | dct => cases e; simp only [Dn] at d; obtain ⟨q, rfl, _, hq⟩ := d; exact ⟨_, u, cu, .base (.dK hq), hb _ _ (by simp)⟩
  | lst ts => cases e; simp only [Dn] at d; obtain ⟨q, vs, rfl, hq, _⟩ := d; exact ⟨_, u, cu, .base (.lst hq.2), hb _ _ (by simp)⟩
  | tup ts =>
    cases e
    simp only [Dn] at d
    obtain ⟨q, vs, rfl, hq, _⟩ := d
    refine ⟨.type "tuple", u, cu, ?_, hb _ _ (by simp)⟩
    rcases hq with ⟨_, hq | ⟨o, hq⟩⟩ | ⟨o, its, n, hl, hc, _⟩
    · exact .base (.tup hq)
    · exact .fTuple hq
    · exact .kTuple hl hc
  | cell m =>
    simp only [isiV] at e
    split at e
    · rename_i ts hm
      cases e
      obtain ⟨q, vs, rfl, _, hq, _⟩ := cell_at st d hm
      exact ⟨_, u, cu, .base (.lst hq), hb _ _ (by simp)⟩
    · cases e
  | ins c fs =>
    cases e
    simp only [Dn] at d
    obtain ⟨q, dx, C, vs, rfl, _, hq, hm, _⟩ := d
    obtain ⟨f1, f2⟩ := hc c C hm
    exact ⟨_, u, cu, .base (.ins hq f1.cl f1.ha f1.hn f1.ht f1.hm), f2⟩
  | scr ts => cases e
abbrev isiM (kd : Kd) (f : Env → M Tv) : Env → M Bool := fun env => bnd (f env) fun x S => opt (isiV kd S x) S
theorem s_isi {kd : Kd} {kv : V} (g : Gd G n N sc W X) (hg : Gl X "isinstance") (hm : G.mg "isinstance" = none) (kk : KdV G kd kv) (hk : PE X b (tC kv)) (n1 : notStar a = true) (n2 : notStar b = true) (ha : PE X a (tE G W f)) :
    PE X (.Call (.Name "isinstance" p) [a, b] [] pos) (tE G W (boolV (isiM kd f))) ∧ PT X (.Call (.Name "isinstance" p) [a, b] [] pos) (tT G W (isiM kd f)) := by
  have key : PE X (.Call (.Name "isinstance" p) [a, b] [] pos) (tE G W (boolV (isiM kd f))) := by
    refine PE.imp (pe_callB call_isi hg (by rw [g.iw.mg]; exact hm) (by decide +kernel) (pa_cons ha (pa_cons hk pa_nil (star_cons n2 [])) (star_cons n1 [b])) (by decide) (by decide) (star_cons n1 [b]) (star_any (by simp [n2]))) fun σ H Q ⟨env, S, ν, μ, r, z⟩ => ?_
    have z' : Fin G (Wk W σ) (DV G) ν μ H ((f env S).bnd fun x => bnd (fun S => opt (isiV kd S x) S) fun b => ret (Tv.bl b)) Q := by
      rw [boolV, isiM, bnd_assoc] at z
      exact z
    refine ⟨env, S, ν, μ, r, (Fin.bnd (D := DV G) z').mono fun v H1 ⟨t, S1, ν1, μ1, a1, d1, z⟩ => ?_⟩
    cases e : isiV kd S1 t with
    | none => simp only [bnd, e, opt, Rs.bnd] at z; exact z.elim
    | some b =>
      simp only [bnd, e, opt, Rs.bnd] at z
      obtain ⟨ty, u, cu, tx, ko⟩ := isi_one d1 a1.st kk e
      rw [g.iw.K]
      exact ⟨v, kv, ty, u, b, rfl, cu, tx, ko, z.val a1.st dn_bl⟩
  refine ⟨key, ?_⟩
  have q := s_truth g rfl key
  have ef : (fun env => bnd (boolV (isiM kd f) env) truthM) = isiM kd f := by
    funext env
    exact truth_bool _
  rw [ef] at q
  exact q
end
end Mp
namespace Mp
open PySem L2 PySem.Spec
section
variable {G : Wd} {n : Nat} {N : List Str} {sc : Scope} {W W0 : WX} {X : Cx} {a b c e tg elt iter : Expr} {es : List Expr} {pos p p1 p2 p3 : Pos} {f h k : Env → M Tv} {ft ht kt : Env → M Bool} {fs hs : Env → M (List Tv)}
  {ν μ ν' μ' ν1 μ1 ν0 μ0 : List Addr} {H H' H1 H0 : Hp} {S S' S0 S1 : Sto} {st : Stmt} {sts rest : List Stmt} {q q2 : Env → Sto → Sr}
/-- what is wanted behind a statement -/
def FinS (G : Wd) (W : WX) (ν μ : List Addr) (H : Hp) (r : Sr) (D : Ends) : Prop :=
  match r with
  | .nx e S' => ∀ σ' H' ν' μ', Af G ν μ H ν' μ' S' H' → EnR G ν' μ' H' e σ' → D.nx σ' H'
  | .bk e S' => ∀ σ' H' ν' μ', Af G ν μ H ν' μ' S' H' → EnR G ν' μ' H' e σ' → D.bk σ' H'
  | .ct e S' => ∀ σ' H' ν' μ', Af G ν μ H ν' μ' S' H' → EnR G ν' μ' H' e σ' → D.ct σ' H'
  | .rt t S' => ∀ v H' ν' μ', Af G ν μ H ν' μ' S' H' → Dn G ν' μ' H' t v → D.rt v H'
  | .ex c fs e S' => ∀ cls d σ' H' ν' μ', Af G ν μ H ν' μ' S' H' → EnR G ν' μ' H' e σ' → XcR G ν' μ' H' c fs cls d → W cls d σ' H'
  | .bad => False
def tS (G : Wd) (W : WX) (f : Env → Sto → Sr) : TS := fun D σ H => ∃ env S ν μ, Rl G env S ν μ σ H ∧ FinS G W ν μ H (f env S) D
theorem FinS.after {r : Sr} {D : Ends} (a : Af G ν μ H ν1 μ1 S1 H1) (z : FinS G W ν μ H r D) : FinS G W ν1 μ1 H1 r D := by
  cases r with
  | nx e S' => exact fun σ' H' ν' μ' b => z σ' H' ν' μ' (a.trans b)
  | bk e S' => exact fun σ' H' ν' μ' b => z σ' H' ν' μ' (a.trans b)
  | ct e S' => exact fun σ' H' ν' μ' b => z σ' H' ν' μ' (a.trans b)
  | rt t S' => exact fun v H' ν' μ' b => z v H' ν' μ' (a.trans b)
  | ex c fs e S' => exact fun cls d σ' H' ν' μ' b => z cls d σ' H' ν' μ' (a.trans b)
  | bad => exact z
/-- an expression, then the rest: at the base (ν, μ, H), the expression at the point (ν1, μ1, H1) behind it -/
theorem FinS.expr {D : Ends} {env : Env} {σ : L2.St} {kk : Tv → Sto → Sr} (a : Af G ν μ H ν1 μ1 S1 H1) (r : EnR G ν1 μ1 H1 env σ) (z : FinS G W ν μ H (srOf (f env S1) env kk) D) :
    Fin G (Wk W σ) (DV G) ν1 μ1 H1 (f env S1) fun v H2 => ∃ t S2 ν2 μ2, Af G ν1 μ1 H1 ν2 μ2 S2 H2 ∧ Dn G ν2 μ2 H2 t v ∧ FinS G W ν μ H (kk t S2) D := by
  cases e : f env S1 with
  | ok t S2 =>
    rw [e] at z
    exact fun v H2 ν2 μ2 b d => ⟨t, S2, ν2, μ2, b, d, z⟩
  | ex c fs S2 =>
    rw [e] at z
    exact fun cls d H2 ν2 μ2 b x => z cls d σ H2 ν2 μ2 (a.trans b) (r.af b) x
  | bad => rw [e] at z; exact z
theorem FinS.test {D : Ends} {env : Env} {σ : L2.St} {kk : Bool → Sto → Sr} (a : Af G ν μ H ν1 μ1 S1 H1) (r : EnR G ν1 μ1 H1 env σ) (z : FinS G W ν μ H (match ft env S1 with
    | .ok k S => kk k S
    | .ex c fs S => .ex c fs env S
    | .bad => .bad) D) :
    Fin G (Wk W σ) DB ν1 μ1 H1 (ft env S1) fun v H2 => ∃ S2 ν2 μ2, Af G ν1 μ1 H1 ν2 μ2 S2 H2 ∧ FinS G W ν μ H (kk v S2) D := by
  cases e : ft env S1 with
  | ok t S2 =>
    rw [e] at z
    intro v H2 ν2 μ2 b d
    have d' : t = v := d
    subst d'
    exact ⟨S2, ν2, μ2, b, z⟩
  | ex c fs S2 =>
    rw [e] at z
    exact fun cls d H2 ν2 μ2 b x => z cls d σ H2 ν2 μ2 (a.trans b) (r.af b) x
  | bad => rw [e] at z; exact z
theorem FinS.go {D : Ends} {env : Env} {σ : L2.St} {fi : Env → M (List Tv × List (Nat × List Tv))} {kk : List Tv × List (Nat × List Tv) → Sto → Sr} (a : Af G ν μ H ν1 μ1 S1 H1) (r : EnR G ν1 μ1 H1 env σ) (z : FinS G W ν μ H (match fi env S1 with
    | .ok k S => kk k S
    | .ex c fs S => .ex c fs env S
    | .bad => .bad) D) :
    Fin G (Wk W σ) (fun ν μ H q J => ItR G ν μ H q.1 q.2 J) ν1 μ1 H1 (fi env S1) fun J H2 => ∃ q S2 ν2 μ2, Af G ν1 μ1 H1 ν2 μ2 S2 H2 ∧ ItR G ν2 μ2 H2 q.1 q.2 J ∧ FinS G W ν μ H (kk q S2) D := by
  cases e : fi env S1 with
  | ok t S2 =>
    rw [e] at z
    exact fun v H2 ν2 μ2 b d => ⟨t, S2, ν2, μ2, b, d, z⟩
  | ex c fs S2 =>
    rw [e] at z
    exact fun cls d H2 ν2 μ2 b x => z cls d σ H2 ν2 μ2 (a.trans b) (r.af b) x
  | bad => rw [e] at z; exact z
/-! ### one statement -/
abbrev asgM (tgt : Tg) (f : Env → M Tv) : Env → Sto → Sr := fun env S => srOf (f env S) env fun t S => match setTg tgt t env with
    | some e => .nx e S
    | none => .bad
theorem asg_imp {tgt : Tg} {D : Ends} {σ : L2.St} (z : tS G W (asgM tgt f) D σ H) : tE G W f σ H fun x H1 => gT G tgt x σ H1 D.nx := by
  obtain ⟨env, S, ν, μ, r, z⟩ := z
  refine ⟨env, S, ν, μ, r, (FinS.expr (.refl r.st) r.en z).mono fun v H1 ⟨t, S2, ν2, μ2, a, d, z⟩ => ?_⟩
  cases e : setTg tgt t env with
  | none => rw [e] at z; exact z.elim
  | some env' =>
    rw [e] at z
    exact ⟨t, env, ν2, μ2, env', r.en.af a, d, e, fun σ' r' _ => z σ' H1 ν2 μ2 a r'⟩
theorem s_asg {tgt : Tg} (ha : PE X a (tE G W f)) (hg : PG X tg (gT G tgt)) (hs : swapsWithSole [tg] a pos.line X.env = pure false) (hw : swappedStores [tg] a X.env = pure none) (ns : notStar tg = true) :
    PS X (.Assign [tg] a pos) (tS G W (asgM tgt f)) :=
  PS.imp (ps_asg ha hg hs hw (by rw [each_cons ns]; rfl)) fun D σ H z => asg_imp z
theorem fz_imp {σ : L2.St} {Q : VK} (z : tE G W (fun env => bnd (fs env) fun xs => ret (.lst xs)) σ H Q) : tL G W fs σ H Q := by
  obtain ⟨env, S, ν, μ, r, z⟩ := z
  refine ⟨env, S, ν, μ, r, ?_⟩
  simp only [bnd] at z
  cases e : fs env S with
  | ok ts S1 =>
    rw [e] at z
    rintro v H' ν' μ' a ⟨q, vs, rfl, h1, h2, h3, h4, h5, d⟩
    have nd : ∀ y ∈ ν'.filter (fun y => decide (y ≠ q)), y ∈ ν' := fun y hy => (List.mem_filter.mp hy).1
    have a' : Af G ν μ H (ν'.filter (fun y => decide (y ≠ q))) μ' S1 H' :=
      ⟨⟨fun y hy => List.mem_filter.mpr ⟨a.kp.sub y hy, decide_eq_true (fun z => h3 (z ▸ hy))⟩, fun y hy => a.kp.new y (nd y hy), a.kp.keep⟩, a.pre,
        a.st.less nd fun y hy => List.mem_filter.mpr ⟨a.st.sub y hy, decide_eq_true (fun z => h2 (z ▸ hy))⟩, a.nm, a.lk⟩
    refine z (.ref q) H' _ μ' a' ?_
    show Dn G _ μ' H' (.lst ts) (.ref q)
    simp only [Dn]
    exact ⟨q, vs, rfl, ⟨fun hy => by have := (List.mem_filter.mp hy).2; simp at this, h5⟩, Dns.less nd _ _ d⟩
  | ex c fs S1 => rw [e] at z; exact z
  | bad => rw [e] at z; exact z
theorem mu_imp {σ : L2.St} {Q : VK} (z : tE G W (fun env => bnd (fs env) fun xs => alloc (.lst xs)) σ H Q) : tL G W fs σ H Q := by
  obtain ⟨env, S, ν, μ, r, z⟩ := z
  refine ⟨env, S, ν, μ, r, ?_⟩
  simp only [bnd] at z
  cases e : fs env S with
  | ok ts S1 =>
    rw [e] at z
    rintro v H' ν' μ' a ⟨q, vs, rfl, h1, h2, h3, h4, h5, d⟩
    have st := a.st.adopt h1 h2 h5 d
    have nw : ∀ y ∈ μ' ++ [q], y ∈ μ ∨ H y = none := fun y hy => by
      rcases List.mem_append.mp hy with w | w
      · exact a.nm y w
      · rw [List.mem_singleton.mp w]; exact .inr h4
    refine z (.ref q) H' ν' (μ' ++ [q]) ⟨a.kp, a.pre.trans (List.prefix_append _ _), st, nw, a.lk⟩ ?_
    show Dn G _ _ H' (.cell S1.length) (.ref q)
    simp only [Dn]
    exact ⟨q, rfl, by rw [← a.st.len]; simp⟩
  | ex c fs S1 => rw [e] at z; exact z
  | bad => rw [e] at z; exact z
/-- name = [.. for ..] in one line: the block's frame goes behind the store -/
theorem s_asgLc {i : Nat} {y : Str} {py : Pos} {ifs : List Expr} {scope : Scope} {own : List (Str × Nat)} {tgt : Tg} {fi : Env → M (List Tv × List (Nat × List Tv))} {fc : Env → M Bool} {fe : Env → M Tv} {spos : Pos}
    (g : Gd G n N sc W X) (l : LcR G n N sc X elt tg iter ifs scope own W tgt fi fc fe) (hy : N[i]? = some y) (hyl : sc.names.lookup y = some .local)
    (hsw : swapsWith (.ListComp elt [⟨tg, iter, ifs, 0⟩] scope pos) (some (.Name y py)) spos.line X.env = pure true)
    (hf : ∀ σ H Q, tE G W f σ H Q → tL G W (lcM (own.map (·.2)) tgt fi fc fe) σ H Q) :
    PS X (.Assign [.Name y py] (.ListComp elt [⟨tg, iter, ifs, 0⟩] scope pos) spos) (tS G W (asgM (.v i) f)) := by
  refine PS.imp (ps_setLc (i := i) (own := own) g.calm (by rw [g.nms]; exact g.nd) (by rw [g.nms]; exact hy) (by rw [g.sc]; exact hyl) hsw l.hi (by rw [g.nms, g.sc]; exact blkOk_by l.ok) (fun s H C cl fp => l.hg _ (g.blk scope s H C cl fp) fun x hx => hx)
    (fun s H C cl fp => l.ht _ (g.blk scope s H C cl fp)) (fun s H C cl fp => l.he _ (g.blk scope s H C cl fp)) (fold_no l.ns)) fun D σ H z => ?_
  refine comp_imp l.ho (hf σ H _ ?_)
  obtain ⟨env, S, ν, μ, r, z⟩ := z
  refine ⟨env, S, ν, μ, r, (FinS.expr (.refl r.st) r.en z).mono fun v H1 ⟨t, S2, ν2, μ2, a, d, z⟩ => ?_⟩
  exact z _ H1 ν2 μ2 a ((r.en.af a).set d)
/-- two or three plain names at once -/
abbrev tupM (fs : Env → M (List Tv)) : Env → M Tv := fun env => bnd (fs env) fun xs => if xs.length ≤ lim then ret (.tup xs) else bad
theorem par_imp {gs : List Tg} {D : Ends} {σ : L2.St} (z : tS G W (asgM (.tup gs) (tupM fs)) D σ H) :
    tA G W fs σ H fun vs H1 => ∃ ts env ν μ e, EnR G ν μ H1 env σ ∧ Dns G ν μ H1 ts vs ∧ setTgs gs ts env = some e ∧ ∀ σ', EnR G ν μ H1 e σ' → D.nx σ' H1 := by
  obtain ⟨env, S, ν, μ, r, z⟩ := z
  refine ⟨env, S, ν, μ, r, ?_⟩
  simp only [asgM, tupM, bnd] at z
  cases e1 : fs env S with
  | bad => rw [e1] at z; exact z.elim
  | ex c fs S1 => rw [e1] at z; exact fun cls d H2 ν2 μ2 b x => z cls d σ H2 ν2 μ2 b (r.en.af b) x
  | ok ts S1 =>
    rw [e1] at z
    simp only [Rs.bnd] at z
    split at z
    · simp only [ret, srOf, setTg] at z
      intro vs H2 ν2 μ2 a d
      cases e2 : setTgs gs ts env with
      | none => rw [e2] at z; exact z.elim
      | some e =>
        rw [e2] at z
        exact ⟨ts, env, ν2, μ2, e, r.en.af a, d, e2, fun σ' r' => z σ' H2 ν2 μ2 a r'⟩
    · exact z.elim
theorem s_par2 {i j : Nat} {x y : Str} {px py pt : Pos} {kt k2 : Nat} {pt2 : Pos} (g : Gd G n N sc W X) (hi : N[i]? = some x) (hj : N[j]? = some y) (hij : i ≠ j) (hx : sc.names.lookup x = some .local) (hy : sc.names.lookup y = some .local)
    (ha : PA X [a, b] (tA G W fs)) (hw : swappedStores [.Tuple [.Name x px, .Name y py] kt pt] (.Tuple [a, b] k2 pt2) X.env = pure (some [x, y])) :
    PS X (.Assign [.Tuple [.Name x px, .Name y py] kt pt] (.Tuple [a, b] k2 pt2) pos) (tS G W (asgM (.tup [.v i, .v j]) (tupM fs))) := by
  refine PS.imp (ps_par (i := i) (j := j) g.calm (by rw [g.nms]; exact g.nd) (by rw [g.nms]; exact hi) (by rw [g.nms]; exact hj) hij (by rw [g.sc]; exact hx) (by rw [g.sc]; exact hy) ha hw rfl) fun D σ H z => ?_
  obtain ⟨env, S, ν, μ, r, z⟩ := par_imp z
  refine ⟨env, S, ν, μ, r, z.mono fun vs H1 ⟨ts, env, ν, μ, e, r, d, he, q⟩ => ?_⟩
  rcases ts with _ | ⟨t, _ | ⟨u, _ | ⟨w, ws⟩⟩⟩ <;> simp [setTgs, setTg] at he
  subst he
  obtain ⟨v, w, rfl, d1, d2⟩ := d.un2
  exact ⟨v, w, rfl, q _ ((r.set d1).set d2)⟩
theorem s_par3 {i j l : Nat} {x y z : Str} {px py pz pt : Pos} {kt k2 : Nat} {pt2 : Pos} (g : Gd G n N sc W X) (hi : N[i]? = some x) (hj : N[j]? = some y) (hl : N[l]? = some z) (hij : i ≠ j) (hil : i ≠ l) (hjl : j ≠ l) (hx : sc.names.lookup x = some .local)
    (hy : sc.names.lookup y = some .local) (hz : sc.names.lookup z = some .local) (ha : PA X [a, b, c] (tA G W fs)) (hw : swappedStores [.Tuple [.Name x px, .Name y py, .Name z pz] kt pt] (.Tuple [a, b, c] k2 pt2) X.env = pure (some [x, y, z])) :
    PS X (.Assign [.Tuple [.Name x px, .Name y py, .Name z pz] kt pt] (.Tuple [a, b, c] k2 pt2) pos) (tS G W (asgM (.tup [.v i, .v j, .v l]) (tupM fs))) := by
  refine PS.imp (ps_par3 (i := i) (j := j) (l := l) g.calm (by rw [g.nms]; exact g.nd) (by rw [g.nms]; exact hi) (by rw [g.nms]; exact hj) (by rw [g.nms]; exact hl) hij hil hjl (by rw [g.sc]; exact hx) (by rw [g.sc]; exact hy) (by rw [g.sc]; exact hz) ha hw rfl) fun D σ H z => ?_
  obtain ⟨env, S, ν, μ, r, z⟩ := par_imp z
  refine ⟨env, S, ν, μ, r, z.mono fun vs H1 ⟨ts, env, ν, μ, e, r, d, he, q⟩ => ?_⟩
  rcases ts with _ | ⟨t, _ | ⟨u, _ | ⟨w, _ | ⟨w', ws⟩⟩⟩⟩ <;> simp [setTgs, setTg] at he
  subst he
  simp only [Dns] at d
  obtain ⟨v1, _, rfl, d1, v2, _, rfl, d2, v3, _, rfl, d3, rfl⟩ := d
  exact ⟨v1, v2, v3, rfl, q _ (((r.set d1).set d2).set d3)⟩
theorem s_drop (ha : PE X a (tE G W f)) (hs : swapsWith a none pos.line X.env = pure false) : PS X (.Expr a pos) (tS G W fun env S => srOf (f env S) env fun _ S => .nx env S) := by
  refine PS.imp (ps_expr ha hs) fun D σ H ⟨env, S, ν, μ, r, z⟩ => ?_
  exact ⟨env, S, ν, μ, r, (FinS.expr (.refl r.st) r.en z).mono fun v H1 ⟨t, S2, ν2, μ2, a, d, z⟩ => z σ H1 ν2 μ2 a (r.en.af a)⟩
theorem nx_imp {D : Ends} {σ : L2.St} (z : tS G W (fun env S => .nx env S) D σ H) : D.nx σ H := by
  obtain ⟨env, S, ν, μ, r, z⟩ := z
  exact z σ H ν μ (.refl r.st) r.en
theorem s_doc {x : Str} {j : Nat} : PS X (.Expr (.Constant (.str x) j p) pos) (tS G W fun env S => .nx env S) := PS.imp ps_doc fun D σ H z => nx_imp z
theorem s_pass : PS X (.Pass pos) (tS G W fun env S => .nx env S) := PS.imp ps_pass fun D σ H z => nx_imp z
theorem s_break : PS X (.Break pos) (tS G W fun env S => .bk env S) := PS.imp ps_break fun D σ H ⟨env, S, ν, μ, r, z⟩ => z σ H ν μ (.refl r.st) r.en
theorem s_cont : PS X (.Continue pos) (tS G W fun env S => .ct env S) := PS.imp ps_continue fun D σ H ⟨env, S, ν, μ, r, z⟩ => z σ H ν μ (.refl r.st) r.en
theorem s_ret (ha : PE X a (tE G W f)) : PS X (.Return (some a) pos) (tS G W fun env S => srOf (f env S) env fun t S => .rt t S) := by
  refine PS.imp (ps_ret ha) fun D σ H ⟨env, S, ν, μ, r, z⟩ => ?_
  exact ⟨env, S, ν, μ, r, (FinS.expr (.refl r.st) r.en z).mono fun v H1 ⟨t, S2, ν2, μ2, a, d, z⟩ => z v H1 ν2 μ2 a d⟩
theorem s_retN : PS X (.Return none pos) (tS G W fun env S => .rt .non S) := PS.imp ps_retN fun D σ H ⟨env, S, ν, μ, r, z⟩ => z .non H ν μ (.refl r.st) dn_non
theorem s_if (hc : PT X c (tT G W ft)) (ha : PSs X sts (tS G W q)) (hb : PSs X rest (tS G W q2)) : PS X (.If c sts rest pos) (tS G W fun env S => match ft env S with
    | .ok k S => if k then q env S else q2 env S
    | .ex c fs S => .ex c fs env S
    | .bad => .bad) := by
  refine PS.imp (ps_if hc ha hb) fun D σ H ⟨env, S, ν, μ, r, z⟩ => ?_
  refine ⟨env, S, ν, μ, r, (FinS.test (.refl r.st) r.en z).mono fun v H1 ⟨S2, ν2, μ2, a, z⟩ => ?_⟩
  cases v with
  | true => exact iteT ⟨env, S2, ν2, μ2, r.af a, FinS.after a z⟩
  | false => exact iteF ⟨env, S2, ν2, μ2, r.af a, FinS.after a z⟩
/-! ### blocks -/
theorem s_snil : PSs X [] (tS G W fun env S => .nx env S) := PSs.imp pss_nil fun D σ H z => nx_imp z
theorem s_scons (h1 : PS X st (tS G W q)) (h2 : PSs X rest (tS G W q2)) : PSs X (st :: rest) (tS G W fun env S => match q env S with
    | .nx env S => q2 env S
    | x => x) := by
  refine PSs.imp (pss_cons h1 h2) fun D σ H ⟨env, S, ν, μ, r, z⟩ => ⟨env, S, ν, μ, r, ?_⟩
  simp only at z
  cases e : q env S with
  | nx env' S' =>
    rw [e] at z
    exact fun σ' H' ν' μ' a r' => ⟨env', S', ν', μ', ⟨a.st, r'⟩, FinS.after a z⟩
  | _ => rw [e] at z; exact z
/-! ### xs[i] = v -/
theorem assign_sub {o i : Expr} {v : Value} {env : PySem.Env} (hp : plainIx i = true) : assign (.Subscript o i pos) env v = (do
      let ov ← holding [v] (eval o env)
      let iv ← holding [v, ov] (eval i env)
      standAt pos
      holding [v, ov, iv] (setItem ov iv v)
      release [v, ov, iv] []) := by
  cases i <;> first | rfl | cases hp
theorem s_setIx {o i : Expr} {ppos : Pos} (ho : PE X o (tE G W h)) (hi : PE X i (tE G W k)) (ha : PE X a (tE G W f)) (hp : plainIx i = true) (hs : swapsWithSole [.Subscript o i ppos] a pos.line X.env = pure false) (hw : swappedStores [.Subscript o i ppos] a X.env = pure none) :
    PS X (.Assign [.Subscript o i ppos] a pos) (tS G W fun env S => srOf (f env S) env fun t S => srOf (h env S) env fun x S => srOf (k env S) env fun j S => match setAt x j t S with
      | some S' => .nx env S'
      | none => .bad) := by
  refine PS.imp (ps_asg ha (pg_sub ho hi set_list (fun v => assign_sub hp)) hs hw rfl) fun D σ H ⟨env, S, ν, μ, r, z⟩ => ?_
  refine ⟨env, S, ν, μ, r, (FinS.expr (.refl r.st) r.en z).mono fun v H1 ⟨t, S1, ν1, μ1, a1, d1, z⟩ => ?_⟩
  refine ⟨env, S1, ν1, μ1, r.af a1, (FinS.expr a1 (r.en.af a1) z).mono fun x H2 ⟨tx, S2, ν2, μ2, a2, d2, z⟩ => ?_⟩
  refine ⟨env, S2, ν2, μ2, (r.af a1).af a2, (FinS.expr (a1.trans a2) ((r.en.af a1).af a2) z).mono fun y H3 ⟨ty, S3, ν3, μ3, a3, d3, z⟩ => ?_⟩
  cases e : setAt tx ty t S3 with
  | none => rw [e] at z; exact z.elim
  | some S' =>
    rw [e] at z
    unfold setAt at e
    split at e
    · split at e
      · rename_i ts hm
        obtain ⟨j, e1, e2⟩ := Option.map_eq_some_iff.mp e
        subst e2
        obtain ⟨ad, vs, rfl, hq, hh, dd⟩ := cell_at a3.st (d2.af a3) hm
        simp only [Dn] at d3
        subst d3
        have d1' := (d1.af a2).af a3
        have ak := Af.lst a3.st hq (dd.set j d1')
        refine ⟨ad, vs, _, j, rfl, rfl, hh, by rw [← dd.length]; exact e1, ?_⟩
        exact z σ _ ν3 μ3 (((a1.trans a2).trans a3).trans ak) (((((r.en.af a1).af a2).af a3)).af ak)
      · cases e
    · cases e
/-! ### loops -/
theorem s_while (hp : PassesOwn (model X.prog X.w) X.A X.env X.xe) (hc : PT X c (tT G W ft)) (hb : PSs X sts (tS G W q)) (m : Nat) : PS X (.While c sts [] pos) (tS G W (whileL ft q m)) := by
  refine PS.imp (ps_while hp hc hb) fun D σ H ⟨env, S, ν, μ, r, z⟩ => ?_
  refine ⟨fun m σ1 H1 => ∃ env1 S1 ν1 μ1, Af G ν μ H ν1 μ1 S1 H1 ∧ EnR G ν1 μ1 H1 env1 σ1 ∧ FinS G W ν μ H (whileL ft q m env1 S1) D, ⟨m, env, S, ν, μ, .refl r.st, r.en, z⟩, ?_⟩
  rintro m σ1 H1 ⟨env1, S1, ν1, μ1, a1, r1, z1⟩
  cases m with
  | zero => exact z1.elim
  | succ m =>
    simp only [whileL] at z1
    have z2 : FinS G W ν μ H (match ft env1 S1 with
        | .ok k S => (if k = true then (match q env1 S with
            | .nx e S => whileL ft q m e S
            | .ct e S => whileL ft q m e S
            | .bk e S => .nx e S
            | .rt t S => .rt t S
            | .ex c fs e S => .ex c fs e S
            | .bad => .bad) else .nx env1 S)
        | .ex c fs S => .ex c fs env1 S
        | .bad => .bad) D := by
      cases e : ft env1 S1 with
      | ok k S2 => rw [e] at z1; cases k <;> exact z1
      | ex c fs S2 => rw [e] at z1; exact z1
      | bad => rw [e] at z1; exact z1
    refine ⟨env1, S1, ν1, μ1, ⟨a1.st, r1⟩, (FinS.test (kk := fun k S => if k = true then (match q env1 S with
            | .nx e S => whileL ft q m e S
            | .ct e S => whileL ft q m e S
            | .bk e S => .nx e S
            | .rt t S => .rt t S
            | .ex c fs e S => .ex c fs e S
            | .bad => .bad) else .nx env1 S) a1 r1 z2).mono fun k H2 ⟨S2, ν2, μ2, a2, z3⟩ => ?_⟩
    cases k with
    | false =>
      refine iteF ?_
      exact z3 σ1 H2 ν2 μ2 (a1.trans a2) (r1.af a2)
    | true =>
      refine iteT ⟨fun σ' H' => ∃ m', m' < m + 1 ∧ ∃ env1 S1 ν1 μ1, Af G ν μ H ν1 μ1 S1 H' ∧ EnR G ν1 μ1 H' env1 σ' ∧ FinS G W ν μ H (whileL ft q m' env1 S1) D, fun _ _ w => w, env1, S2, ν2, μ2, ⟨a2.st, r1.af a2⟩, ?_⟩
      simp only [if_true] at z3
      have ab := a1.trans a2
      cases e : q env1 S2 with
      | nx e' S' => rw [e] at z3; exact fun σ' H' ν' μ' b r' => ⟨m, Nat.lt_succ_self _, e', S', ν', μ', ab.trans b, r', z3⟩
      | ct e' S' => rw [e] at z3; exact fun σ' H' ν' μ' b r' => ⟨m, Nat.lt_succ_self _, e', S', ν', μ', ab.trans b, r', z3⟩
      | bk e' S' => rw [e] at z3; exact fun σ' H' ν' μ' b r' => z3 σ' H' ν' μ' (ab.trans b) r'
      | rt t S' => rw [e] at z3; exact fun v H' ν' μ' b r' => z3 v H' ν' μ' (ab.trans b) r'
      | ex c fs e' S' => rw [e] at z3; exact fun cls d σ' H' ν' μ' b r' x => z3 cls d σ' H' ν' μ' (ab.trans b) r' x
      | bad => rw [e] at z3; exact z3
theorem s_for {tgt : Tg} {fi : Env → M (List Tv × List (Nat × List Tv))} (g : Gd G n N sc W X) (hp : PassesOwn (model X.prog X.w) X.A X.env X.xe) (hi : PI X tg iter (tI G W fi)) (hg : PG X tg (gT G tgt)) (hb : PSs X sts (tS G W q)) (ns : notSet iter = true) :
    PS X (.For tg iter sts [] pos) (tS G W fun env S => match fi env S with
      | .ok w S => forL w.2 tgt q w.1 env S
      | .ex c fs S => .ex c fs env S
      | .bad => .bad) := by
  refine PS.imp (ps_for hp g.calm hi hg hb (fold_no ns)) fun D σ H ⟨env, S, ν, μ, r, z⟩ => ?_
  refine ⟨env, S, ν, μ, r, (FinS.go (.refl r.st) r.en z).mono fun J H1 ⟨w, S1, ν1, μ1, a1, it, z1⟩ => ?_⟩
  obtain ⟨ts, w⟩ := w
  simp only at it z1
  refine ⟨fun i m σ4 H4 => m = ts.length - i ∧ i ≤ ts.length ∧ ∃ env4 S4 ν4 μ4, Af G ν1 μ1 H1 ν4 μ4 S4 H4 ∧ EnR G ν4 μ4 H4 env4 σ4 ∧ FinS G W ν μ H (forL w tgt q (ts.drop i) env4 S4) D, ⟨ts.length, rfl, Nat.zero_le _, env, S1, ν1, μ1, .refl a1.st, r.en.af a1, z1⟩, ?_⟩
  rintro i m σ4 H4 ⟨rfl, hi', env4, S4, ν4, μ4, a4, r4, z4⟩
  by_cases hlt : i < ts.length
  · have e1 : ts.drop i = ts[i] :: ts.drop (i + 1) := List.drop_eq_getElem_cons hlt
    rw [e1] at z4
    simp only [forL] at z4
    split at z4
    case isFalse => exact z4.elim
    rename_i hst
    obtain ⟨hgo, hy⟩ := it.go i ν4 μ4 S4 H4 a4 hst hlt
    refine .inr ⟨hgo, fun σ' H' => ∃ m', m' < ts.length - i ∧ (m' = ts.length - (i + 1) ∧ i + 1 ≤ ts.length ∧ ∃ env4 S4 ν4 μ4, Af G ν1 μ1 H1 ν4 μ4 S4 H' ∧ EnR G ν4 μ4 H' env4 σ' ∧ FinS G W ν μ H (forL w tgt q (ts.drop (i + 1)) env4 S4) D), fun _ _ w => w, fun x H5 y => ?_⟩
    obtain ⟨t, et, a5, d5, _⟩ := hy x H5 y
    rw [List.getElem?_eq_getElem hlt] at et
    cases et
    cases es : setTg tgt ts[i] env4 with
    | none => rw [es] at z4; exact z4.elim
    | some e =>
      rw [es] at z4
      refine ⟨ts[i], env4, ν4, μ4, e, r4.af a5, d5, es, fun σ2 r2 _ => ⟨e, S4, ν4, μ4, ⟨a5.st, r2⟩, ?_⟩⟩
      have ab := (a1.trans a4).trans a5
      have ab4 := a4.trans a5
      cases eq : q e S4 with
      | nx e' S' => simp only [eq] at z4; exact fun σ' H' ν' μ' b r' => ⟨_, by omega, rfl, hlt, e', S', ν', μ', ab4.trans b, r', z4⟩
      | ct e' S' => simp only [eq] at z4; exact fun σ' H' ν' μ' b r' => ⟨_, by omega, rfl, hlt, e', S', ν', μ', ab4.trans b, r', z4⟩
      | bk e' S' => simp only [eq] at z4; exact fun σ' H' ν' μ' b r' => z4 σ' H' ν' μ' (ab.trans b) r'
      | rt t S' => simp only [eq] at z4; exact fun v H' ν' μ' b r' => z4 v H' ν' μ' (ab.trans b) r'
      | ex c fs e' S' => simp only [eq] at z4; exact fun cls d σ' H' ν' μ' b r' x => z4 cls d σ' H' ν' μ' (ab.trans b) r' x
      | bad => simp only [eq] at z4; exact z4
  · have e : i = ts.length := by omega
    subst e
    rw [List.drop_length] at z4
    simp only [forL] at z4
    split at z4
    case isFalse => exact z4.elim
    rename_i hst
    exact .inl ⟨it.stop _ _ _ _ _ a4 hst rfl, z4 σ4 H4 ν4 μ4 (a1.trans a4) r4⟩
end
end Mp
namespace Mp
open PySem L2 PySem.Spec PyProof.Rows
open PySem.AutoSeq1 (wpAny_loadPart')
/-- a tuple once is the tuple -/
theorem tup_once (l : Addr) (us : Array Value) (n : Nat) (dd : Option Addr) (sl : Array (Option Value)) (u : Tok) :
    Meets (Builtin.«tuple.__mul__» ⟨[.ref l, .int 1 u], []⟩) (fun _ R s => s.heap.get? l = some { cls := .type "tuple", dict := dd, data := .seq us n, slots := sl } ∧ R (.ok (.ret (Value.ref l))) s) :=
  .of_wp fun prog w A R s h => by
    obtain ⟨hp, g, d, tk, os⟩ := s
    obtain ⟨hl, h⟩ := h
    have f1 := AutoSeq1.idx_int
    have c1 : (us.isEmpty || (1 : Int) == 1) = true := by simp
    wp_walk using wpAny_loadPart' hl
    repeat (first
      | (refine wpAny_ite_false (decide_eq_false (by decide)) ?_; wp_walk using wpAny_loadPart' hl)
      | (refine wpAny_ite_true (decide_eq_true c1) ?_; wp_walk using wpAny_loadPart' hl))
    exact ⟨_, rfl, h⟩
theorem op_one {X : Cx} : OpR X (binaryOp .Mult) (fun x y H Q => ∃ a xs, x = .ref a ∧ y = .int 1 ∧ SqT X.K H a xs ∧ xs ≠ [] ∧ Q (.ref a) H) := by
  intro pins s σ H x y v u Q I rx ry h
  obtain ⟨l, xs, rfl, rfl, hT, hne, q⟩ := h
  cases rx
  obtain ⟨t, rfl⟩ := ry
  obtain ⟨us, r, ⟨⟨c0, dd, dt, sl⟩, ho, h1, n, h2⟩, hs⟩ := I.tuple hT
  simp only at h1 h2
  subst h1 h2
  exact wpAny_binaryOp_repeat_ref (T := "tuple") (U := "int") (by decide) ⟨_, ho, rfl⟩ (fun s' => typeIs_int s' 1 t) noFill_tuple_mul F.fills_int_mul F.slot_int_rmul repeat_tuple F.slot_int_index.lookup
    (call_meets F.slot_int_rmul (typeIs_int s 1 t) F.entry_int_rmul (F.args_int_rmul_2 _ _) (int_rmul_tuple 1 t l us.toArray n dd sl)
      ⟨ho, rfl, ⟨_, ho, rfl⟩, call_meets F.slot_tuple_mul ⟨_, ho, rfl⟩ F.entry_tuple_mul (F.args_tuple_mul_2 _ _) (tup_once l us.toArray n dd sl t) ⟨ho, ⟨.ref l, H, I, rfl, q⟩⟩⟩)
end Mp
namespace Mp
open PySem L2 PySem.Spec
/-! ### the text is the tree -/
structure Tb where
  fns : List (Str × Nat)
  gls : List (Str × Tv)
  bls : List Str
  kds : List (Str × Kd)
structure TbOk (G : Wd) (n : Nat) (cf : Nat → List Tv → M Tv) (T : Tb) : Prop where
  fn : ∀ x i, (x, i) ∈ T.fns → ∃ k fa fd ps, FnG G k fa fd ps (spF G (cf i)) ∧ k ≤ n ∧ G.mg x = some (.ref fa) ∧ PySem.W.keepIn G.K (.ref fa) = true ∧ Binds G.K fd ps []
  gl : ∀ x t, (x, t) ∈ T.gls → ∃ v u, G.mg x = some u ∧ RelV v u ∧ ∀ ν μ H, Dn G ν μ H t v
  bl : ∀ x, x ∈ T.bls → G.mg x = none
  kd : ∀ x k, (x, k) ∈ T.kds → ∃ kv u, KdV G k kv ∧ RelV kv u ∧ (G.mg x = some u ∨ (G.mg x = none ∧ bootBuiltins x = some u))
def glB (sc : Scope) (x : Str) : Bool := (match sc.names.lookup x with
  | some .globalImplicit => true
  | _ => false) && !(x == ("__debug__" : Str)) && decide (x ≠ "__name__")
def visB (sc : Scope) (x : Str) : Bool := (match sc.names.lookup x with
  | some .local => true
  | some .cell => true
  | some .free => true
  | _ => false) && !(x == ("__debug__" : Str)) && !(x == ("__classdict__" : Str))
def baseB : Expr → Bool
  | .Call _ _ _ _ => false
  | _ => true
def tgB (sc : Scope) (fnB : Str → Bool) (x : Str) : Bool := match sc.names.lookup x with
  | some .local => true
  | some .cell => fnB x
  | _ => false
section
variable (T : Tb) (N : List Str)
mutual
def okT (sc : Scope) (fnB : Str → Bool) : Tg → Expr → Bool
  | .v i, .Name x _ => decide (N[i]? = some x) && tgB sc fnB x
  | .tup gs, .Tuple es _ _ => okTs sc fnB gs es
  | _, _ => false
def okTs (sc : Scope) (fnB : Str → Bool) : List Tg → List Expr → Bool
  | [], [] => true
  | g :: gs, e :: es => notStar e && okT sc fnB g e && okTs sc fnB gs es
  | _, _ => false
end
def isNop : Ex → Bool
  | .nop => true
  | _ => false
def ownOf (own : List Nat) : List (Str × Nat) := own.map fun i => (N.getD i "", i)
mutual
def okE (sc : Scope) : Ex → Expr → Bool
  | .var i, .Name x _ => decide (N[i]? = some x) && visB sc x
  | .int i, .Constant (.int j) _ _ => decide (i = j)
  | .str s, .Constant (.str t) _ _ => decide (s = t)
  | .bl b, .Constant (.bool c) _ _ => b == c
  | .non, .Constant .none _ _ => true
  | .gl x t, .Name y _ => decide (x = y) && glB sc x && decide ((x, t) ∈ T.gls)
  | .bin o a b, .BinOp a' p b' _ => decide (p = o.py) && okE sc a a' && okE sc b b'
  | .neg a, .UnaryOp .USub a' _ => okE sc a a'
  | .cmp o a b, .Compare a' [p] [b'] _ => decide (p = o.py) && notSet b' && okE sc a a' && okE sc b b'
  | .chain o q a b c, .Compare a' [p, r] [b', c'] _ => decide (p = o.py) && decide (r = q.py) && notSet c' && okE sc a a' && okE sc b b' && okE sc c c'
  | .isC ng a none, .Compare a' [p] [.Constant .none _ _] _ => decide (p = if ng then .IsNot else .Is) && okE sc a a'
  | .isC ng a (some b), .Compare a' [p] [.Constant (.bool c) _ _] _ => decide (p = if ng then .IsNot else .Is) && (b == c) && okE sc a a'
  | .bop an es, .BoolOp p es' _ => decide (p = if an then .And else .Or) && !es'.isEmpty && okEs sc es es'
  | .nt a, .UnaryOp .Not a' _ => okE sc a a'
  | .ite c a b, .IfExp c' a' b' _ => okE sc c c' && okE sc a a' && okE sc b b'
  | .tup es, .Tuple es' _ _ => okEs sc es es'
  | .fz l, e => okL sc l e
  | .mu l, e => okL sc l e
  | .call i es, .Call (.Name x _) es' [] _ => decide ((x, i) ∈ T.fns) && glB sc x && okEs sc es es'
  | .prim p es, .Call (.Name x _) es' [] _ => decide (x = p.nm) && decide (p ≠ .minD) && !es'.isEmpty && glB sc x && decide (x ∈ T.bls) && okEs sc es es'
  | .isi a k, .Call (.Name x _) [a', .Name y _] [] _ => decide (x = "isinstance") && glB sc x && decide (x ∈ T.bls) && glB sc y && decide ((y, k) ∈ T.kds) && notStar a' && okE sc a a'
  | .ix a i, .Subscript a' i' _ => plainIx i' && okE sc a a' && okE sc i i'
  | .sl a lo hi, .Subscript a' (.Slice lo' hi' none _) _ => okE sc a a' && (match lo' with
      | none => isNop lo
      | some x => okE sc lo x) && (match hi' with
      | none => isNop hi
      | some x => okE sc hi x)
  | .rev a, .Subscript a' (.Slice none none (some (.UnaryOp .USub (.Constant (.int j) _ _) _)) _) _ => decide (j = 1) && okE sc a a'
  | .pop a, .Call (.Attribute a' x p) [] [] q => decide (x = "pop") && baseB a' && (p.endLine == q.line) && okE sc a a'
  | .popAt a i, .Call (.Attribute a' x p) [i'] [] q => decide (x = "pop") && baseB a' && (p.endLine == q.line) && notStar i' && okE sc a a' && okE sc i i'
  | .app a i, .Call (.Attribute a' x p) [i'] [] q => decide (x = "append") && baseB a' && (p.endLine == q.line) && notStar i' && okE sc a a' && okE sc i i'
  | _, _ => false
def okEs (sc : Scope) : List Ex → List Expr → Bool
  | [], [] => true
  | e :: es, x :: xs => notStar x && okE sc e x && okEs sc es xs
  | _, _ => false
def okL (sc : Scope) : Lx → Expr → Bool
  | .disp es, .List es' _ => okEs sc es es'
  | .comp own elt tg it c, .ListComp elt' [⟨tg', it', ifs, k⟩] scope _ => (k == 0) && blkC N sc scope (ownOf N own) && okT N (relS scope sc) (fun x => scope.names.lookup x == some .cell) tg tg' && decide (∀ i ∈ tg.slots, i ∈ own) && notSet it' &&
      okI sc it tg' it' && okE (relS scope sc) elt elt' && (match ifs with
        | [] => isNop c
        | [c'] => okE (relS scope sc) c c'
        | _ => false)
  | .ofSeq a, .Call (.Name x _) [a'] [] _ => decide (x = "list") && glB sc x && decide (x ∈ T.bls) && notStar a' && okE sc a a'
  | _, _ => false
def okI (sc : Scope) : Ix → Expr → Expr → Bool
  | .seq a, _, a' => okE sc a a'
  | .rng a, _, .Call (.Name x _) [a'] [] _ => decide (x = "range") && glB sc x && decide (x ∈ T.bls) && notStar a' && okE sc a a'
  | .rng2 a b, _, .Call (.Name x _) [a', b'] [] _ => decide (x = "range") && glB sc x && decide (x ∈ T.bls) && notStar a' && notStar b' && okE sc a a' && okE sc b b'
  | .zip a b, .Tuple _ _ _, .Call (.Name x _) [a', b'] [] _ => decide (x = "zip") && glB sc x && decide (x ∈ T.bls) && notStar a' && notStar b' && okE sc a a' && okE sc b b'
  | .enum a, .Tuple _ _ _, .Call (.Name x _) [a'] [] _ => decide (x = "enumerate") && glB sc x && decide (x ∈ T.bls) && notStar a' && okE sc a a'
  | _, _, _ => false
end
end
section
variable {T : Tb} {G : Wd} {n : Nat} {N : List Str} {sc : Scope} {W : WX} {X : Cx} {cf : Nat → List Tv → M Tv}
theorem gl_of {x : Str} (h : glB sc x = true) (g : Gd G n N sc W X) : Gl X x ∧ (x == ("__debug__" : Str)) = false ∧ x ≠ "__name__" := by
  unfold glB at h
  rw [Bool.and_eq_true, Bool.and_eq_true] at h
  obtain ⟨⟨h1, h2⟩, h3⟩ := h
  refine ⟨?_, by simpa using h2, of_decide_eq_true h3⟩
  show X.env.scope.names.lookup x = some .globalImplicit
  rw [g.sc]
  split at h1
  · assumption
  · cases h1
theorem vis_of {x : Str} (h : visB sc x = true) : Vis sc x ∧ (x == ("__debug__" : Str)) = false ∧ (x == ("__classdict__" : Str)) = false := by
  unfold visB at h
  rw [Bool.and_eq_true, Bool.and_eq_true] at h
  obtain ⟨⟨h1, h2⟩, h3⟩ := h
  refine ⟨?_, by simpa using h2, by simpa using h3⟩
  split at h1
  · exact .inl (by assumption)
  · exact .inr (.inl (by assumption))
  · exact .inr (.inr (by assumption))
  · cases h1
theorem base_of {o : Expr} (h : baseB o = true) (m : Str) (env : PySem.Env) : attributeBase o m env (eval o env) = eval o env := by
  cases o <;> first | rfl | cases h
theorem tg_name {i : Nat} {x : Str} {pos : Pos} {fnB : Str → Bool} (g : Gd G n N sc W X) (fn : ∀ x, fnB x = true → X.fn x = true) (hi : N[i]? = some x) (h : tgB sc fnB x = true) : PG X (.Name x pos) (gT G (.v i)) := by
  have hl : LocB sc x = true := by
    unfold tgB at h
    unfold LocB
    split at h <;> simp_all
  refine s_tgv (i := i) g (fun hy => ?_) hi hl
  unfold tgB at h
  rw [hy] at h
  exact fn x h
mutual
theorem sndT {fnB : Str → Bool} (g : Gd G n N sc W X) (fn : ∀ x, fnB x = true → X.fn x = true) : ∀ (t : Tg) (x : Expr), okT N sc fnB t x = true → PG X x (gT G t)
  | .v i, x, h => by
    cases x with
    | Name y p =>
      simp only [okT, Bool.and_eq_true, decide_eq_true_eq] at h
      exact tg_name g fn h.1 h.2
    | _ => simp [okT] at h
  | .tup gs, x, h => by
    cases x with
    | Tuple es k p =>
      simp only [okT] at h
      obtain ⟨h1, h2, h3⟩ := sndTs g fn gs es h
      exact s_tgt g h1 h2 h3
    | _ => simp [okT] at h
theorem sndTs {fnB : Str → Bool} (g : Gd G n N sc W X) (fn : ∀ x, fnB x = true → X.fn x = true) : ∀ (t : List Tg) (x : List Expr), okTs N sc fnB t x = true → x.all notStar = true ∧ x.length = t.length ∧ PGs X x (gTs G t)
  | [], x, h => by
    cases x with
    | nil => exact ⟨rfl, rfl, s_tgn⟩
    | cons _ _ => simp [okTs] at h
  | t :: r, x, h => by
    cases x with
    | nil => simp [okTs] at h
    | cons e es =>
      simp only [okTs, Bool.and_eq_true] at h
      obtain ⟨⟨h0, h1⟩, h2⟩ := h
      obtain ⟨q1, q2, q3⟩ := sndTs g fn r es h2
      exact ⟨by simp [h0, q1], by rw [List.length_cons, List.length_cons, q2], s_tgc h0 (sndT g fn t e h1) q3⟩
end
end
end Mp
namespace Mp
open PySem L2 PySem.Spec
section
variable {T : Tb} {G : Wd} {n : Nat} {N : List Str} {cf : Nat → List Tv → M Tv}
theorem own_snd (own : List Nat) : (ownOf N own).map (·.2) = own := by
  unfold ownOf
  rw [List.map_map]
  exact List.map_id own
theorem plain2 {sc : Scope} {W : WX} {X : Cx} {x : Expr} {f : Env → M Tv} (g : Gd G n N sc W X) (hp : plainT x = true) (h : PE X x (tE G W f)) : PE X x (tE G W (dflt f).v) ∧ PT X x (tT G W (dflt f).t) := ⟨h, s_truth g hp h⟩
abbrev Good (G : Wd) (cf : Nat → List Tv → M Tv) (W : WX) (X : Cx) (e : Ex) (x : Expr) : Prop := PE X x (tE G W (ev cf e).v) ∧ PT X x (tT G W (ev cf e).t)
theorem and2 {a b : Bool} (h : (a && b) = true) : a = true ∧ b = true := by simpa using h
theorem okE_nop {sc : Scope} {e : Ex} {x : Expr} (h : okE T N sc e x = true) : e ≠ .nop := by
  intro z
  subst z
  cases x <;> simp [okE] at h
theorem end_no {W : WX} {X : Cx} {e : Ex} (h : isNop e = true) : PO X none (tO G W fun env => evEnd e ((ev cf e).v env)) := by
  cases e with
  | nop => exact s_end0
  | _ => cases h
theorem end_yes {W : WX} {X : Cx} {e : Ex} {x : Expr} (hn : e ≠ .nop) (h : PE X x (tE G W (ev cf e).v)) : PO X (some x) (tO G W fun env => evEnd e ((ev cf e).v env)) := by
  have ez : (fun env => evEnd e ((ev cf e).v env)) = endM (ev cf e).v := by
    funext env
    cases e <;> first | exact absurd rfl hn | rfl
  rw [ez]
  exact s_end h
mutual
theorem sndE (tb : TbOk G n cf T) : ∀ (e : Ex) (x : Expr) (sc : Scope) (W : WX) (X : Cx), Gd G n N sc W X → okE T N sc e x = true → Good G cf W X e x
  | .nop, x, sc, W, X, g, h => by cases x <;> exact absurd h (by simp [okE])
  | .var i, x, sc, W, X, g, h => by
    cases x with
    | Name y p =>
      obtain ⟨h1, h2⟩ := and2 h
      obtain ⟨h3, h4, h5⟩ := vis_of h2
      exact plain2 g rfl (s_var g (of_decide_eq_true h1) h3 h4 h5)
    | _ => exact absurd h (by simp [okE])
  | .int i, x, sc, W, X, g, h => by
    cases x with
    | Constant c k p =>
      cases c with
      | int j =>
        have e : i = j := of_decide_eq_true h
        subst e
        exact plain2 g rfl (s_c pe_int fun _ _ _ => dn_int)
      | _ => exact absurd h (by simp [okE])
    | _ => exact absurd h (by simp [okE])
  | .str s, x, sc, W, X, g, h => by
    cases x with
    | Constant c k p =>
      cases c with
      | str j =>
        have e : s = j := of_decide_eq_true h
        subst e
        exact plain2 g rfl (s_c pe_str fun _ _ _ => dn_str)
      | _ => exact absurd h (by simp [okE])
    | _ => exact absurd h (by simp [okE])
  | .bl b, x, sc, W, X, g, h => by
    cases x with
    | Constant c k p =>
      cases c with
      | bool j =>
        have e : b = j := eq_of_beq h
        subst e
        exact plain2 g rfl (s_c pe_bl fun _ _ _ => dn_bl)
      | _ => exact absurd h (by simp [okE])
    | _ => exact absurd h (by simp [okE])
  | .non, x, sc, W, X, g, h => by
    cases x with
    | Constant c k p =>
      cases c with
      | none => exact plain2 g rfl (s_c pe_non fun _ _ _ => dn_non)
      | _ => exact absurd h (by simp [okE])
    | _ => exact absurd h (by simp [okE])
  | .gl y t, x, sc, W, X, g, h => by
    cases x with
    | Name z p =>
      obtain ⟨h1, h2⟩ := and2 h
      obtain ⟨h3, h4⟩ := and2 h1
      have e : y = z := of_decide_eq_true h3
      subst e
      obtain ⟨k1, k2, k3⟩ := gl_of h4 g
      obtain ⟨v, u, m, r, d⟩ := tb.gl y t (of_decide_eq_true h2)
      exact plain2 g rfl (s_c (pe_glob k1 (by rw [g.iw.mg]; exact m) r k2) d)
    | _ => exact absurd h (by simp [okE])
  | .bin o a b, x, sc, W, X, g, h => by
    cases x with
    | BinOp a' p b' q =>
      obtain ⟨h1, h2⟩ := and2 h
      obtain ⟨h3, h4⟩ := and2 h1
      have e : p = o.py := of_decide_eq_true h3
      subst e
      exact plain2 g rfl (s_bin g op_one (sndE tb a a' sc W X g h4).1 (sndE tb b b' sc W X g h2).1)
    | _ => exact absurd h (by simp [okE])
  | .neg a, x, sc, W, X, g, h => by
    cases x with
    | UnaryOp o a' q =>
      cases o with
      | USub => exact plain2 g rfl (s_neg (sndE tb a a' sc W X g h).1)
      | _ => exact absurd h (by simp [okE])
    | _ => exact absurd h (by simp [okE])
  | .cmp o a b, x, sc, W, X, g, h => by
    cases x with
    | Compare a' ps bs q =>
      rcases ps with _ | ⟨p, _ | ⟨p2, ps⟩⟩ <;> rcases bs with _ | ⟨b', _ | ⟨b2, bs⟩⟩ <;> first | (simp [okE] at h; done) | skip
      obtain ⟨h1, h2⟩ := and2 h
      obtain ⟨h3, h4⟩ := and2 h1
      obtain ⟨h5, h6⟩ := and2 h3
      have e : p = o.py := of_decide_eq_true h5
      subst e
      exact s_cmp g (sndE tb a a' sc W X g h4).1 (sndE tb b b' sc W X g h2).1 h6
    | _ => exact absurd h (by simp [okE])
  | .chain o r a b c, x, sc, W, X, g, h => by
    cases x with
    | Compare a' ps bs q =>
      rcases ps with _ | ⟨p, _ | ⟨p2, _ | ⟨p3, ps⟩⟩⟩ <;> rcases bs with _ | ⟨b', _ | ⟨b2, _ | ⟨b3, bs⟩⟩⟩ <;> first | (simp [okE] at h; done) | skip
      obtain ⟨h1, h2⟩ := and2 h
      obtain ⟨h3, h4⟩ := and2 h1
      obtain ⟨h5, h6⟩ := and2 h3
      obtain ⟨h7, h8⟩ := and2 h5
      obtain ⟨h9, h10⟩ := and2 h7
      have e : p = o.py := of_decide_eq_true h9
      have e2 : p2 = r.py := of_decide_eq_true h10
      subst e e2
      exact s_chain g (sndE tb a a' sc W X g h6).1 (sndE tb b b' sc W X g h4).1 (sndE tb c b2 sc W X g h2).1 h8
    | _ => exact absurd h (by simp [okE])
  | .isC ng a cc, x, sc, W, X, g, h => by
    cases x with
    | Compare a' ps bs q =>
      rcases ps with _ | ⟨p, _ | ⟨p2, ps⟩⟩ <;> rcases bs with _ | ⟨b', _ | ⟨b2, bs⟩⟩ <;> first | (cases cc <;> simp [okE] at h <;> done) | skip
      cases b' with
      | Constant c k p2 =>
        cases cc with
        | none =>
          cases c with
          | none =>
            obtain ⟨h1, h2⟩ := and2 h
            have e : p = if ng then .IsNot else .Is := of_decide_eq_true h1
            subst e
            exact s_isC (cc := none) (sndE tb a a' sc W X g h2).1
          | _ => exact absurd h (by simp [okE])
        | some b =>
          cases c with
          | bool b2 =>
            obtain ⟨h1, h2⟩ := and2 h
            obtain ⟨h3, h4⟩ := and2 h1
            have e : p = if ng then .IsNot else .Is := of_decide_eq_true h3
            have e2 : b = b2 := eq_of_beq h4
            subst e e2
            exact s_isC (cc := some b) (sndE tb a a' sc W X g h2).1
          | _ => exact absurd h (by simp [okE])
      | _ => cases cc <;> exact absurd h (by simp [okE])
    | _ => cases cc <;> exact absurd h (by simp [okE])
  | .bop an es, x, sc, W, X, g, h => by
    cases x with
    | BoolOp p xs q =>
      obtain ⟨h1, h2⟩ := and2 h
      obtain ⟨h3, h4⟩ := and2 h1
      have e : p = if an then .And else .Or := of_decide_eq_true h3
      subst e
      have z := sndB tb an es xs sc W X q g (by intro e; subst e; simp at h4) h2
      exact ⟨z.1, z.2.pt⟩
    | _ => exact absurd h (by simp [okE])
  | .nt a, x, sc, W, X, g, h => by
    cases x with
    | UnaryOp o a' q =>
      cases o with
      | Not =>
        have z := sndE tb a a' sc W X g h
        exact s_nt g z.1 z.2
      | _ => exact absurd h (by simp [okE])
    | _ => exact absurd h (by simp [okE])
  | .ite c a b, x, sc, W, X, g, h => by
    cases x with
    | IfExp c' a' b' q =>
      obtain ⟨h1, h2⟩ := and2 h
      obtain ⟨h3, h4⟩ := and2 h1
      have zc := sndE tb c c' sc W X g h3
      have za := sndE tb a a' sc W X g h4
      have zb := sndE tb b b' sc W X g h2
      exact ⟨s_ite zc.2 za.1 zb.1, s_iteT zc.2 za.2 zb.2⟩
    | _ => exact absurd h (by simp [okE])
  | .tup es, x, sc, W, X, g, h => by
    cases x with
    | Tuple xs k q => exact plain2 g rfl (s_tup (sndEs tb es xs sc W X g h).2)
    | _ => exact absurd h (by simp [okE])
  | .fz l, x, sc, W, X, g, h => by
    have z := sndL tb l x sc W X g (by simpa [okE] using h)
    exact plain2 g z.2 (s_fz z.1)
  | .mu l, x, sc, W, X, g, h => by
    have z := sndL tb l x sc W X g (by simpa [okE] using h)
    exact plain2 g z.2 (s_mu z.1)
  | .call i es, x, sc, W, X, g, h => by
    cases x with
    | Call f xs ks q =>
      cases f with
      | Name y p =>
        cases ks with
        | nil =>
          obtain ⟨h1, h2⟩ := and2 h
          obtain ⟨h3, h4⟩ := and2 h1
          obtain ⟨k1, k2, k3⟩ := gl_of h4 g
          obtain ⟨k, fa, fd, ps, F, hk, hm, hki, hb⟩ := tb.fn y i (of_decide_eq_true h3)
          have z := sndEs tb es xs sc W X g h2
          refine plain2 g rfl ?_
          cases xs with
          | nil =>
            cases es with
            | nil => exact s_call0 g F hk k1 hm hki hb k2
            | cons _ _ => exact absurd h2 (by simp [okEs])
          | cons x1 xs => exact s_call g F hk k1 hm hki hb z.2 z.1 k2
        | cons _ _ => exact absurd h (by simp [okE])
      | _ => exact absurd h (by simp [okE])
    | _ => exact absurd h (by simp [okE])
  | .prim pr es, x, sc, W, X, g, h => by
    cases x with
    | Call f xs ks q =>
      cases f with
      | Name y p =>
        cases ks with
        | nil =>
          obtain ⟨h1, h2⟩ := and2 h
          obtain ⟨h3, h4⟩ := and2 h1
          obtain ⟨h5, h6⟩ := and2 h3
          obtain ⟨h7, h8⟩ := and2 h5
          obtain ⟨h9, h10⟩ := and2 h7
          have e : y = pr.nm := of_decide_eq_true h9
          subst e
          have z := sndEs tb es xs sc W X g h2
          refine plain2 g rfl ?_
          cases xs with
          | nil => simp at h8
          | cons x1 xs => exact s_prim g (of_decide_eq_true h10) (gl_of h6 g).1 (tb.bl _ (of_decide_eq_true h4)) z.2 z.1
        | cons _ _ => exact absurd h (by simp [okE])
      | _ => exact absurd h (by simp [okE])
    | _ => exact absurd h (by simp [okE])
  | .isi a k, x, sc, W, X, g, h => by
    cases x with
    | Call f xs ks q =>
      rcases xs with _ | ⟨a', _ | ⟨b', _ | ⟨c', xs⟩⟩⟩
      · cases f <;> cases ks <;> exact absurd h (by simp [okE])
      · cases f <;> cases ks <;> exact absurd h (by simp [okE])
      · cases f with
        | Name y p =>
          cases ks with
          | nil =>
            cases b' with
            | Name z pz =>
              obtain ⟨h1, h2⟩ := and2 h
              obtain ⟨h3, h4⟩ := and2 h1
              obtain ⟨h5, h6⟩ := and2 h3
              obtain ⟨h7, h8⟩ := and2 h5
              obtain ⟨h9, h10⟩ := and2 h7
              obtain ⟨h11, h12⟩ := and2 h9
              have e : y = "isinstance" := of_decide_eq_true h11
              subst e
              obtain ⟨k1, k2, k3⟩ := gl_of h8 g
              obtain ⟨kv, u, kk, rv, hm⟩ := tb.kd z k (of_decide_eq_true h6)
              have hz : PE X (.Name z pz) (tC kv) := by
                rcases hm with hm | ⟨hm, hb⟩
                · exact pe_glob k1 (by rw [g.iw.mg]; exact hm) rv k2
                · exact pe_bltn k1 (by rw [g.iw.mg]; exact hm) hb rv k3 k2
              exact s_isi g (gl_of h12 g).1 (tb.bl _ (of_decide_eq_true h10)) kk hz h4 rfl (sndE tb a a' sc W X g h2).1
            | _ => exact absurd h (by simp [okE])
          | cons _ _ => exact absurd h (by simp [okE])
        | _ => exact absurd h (by simp [okE])
      · cases f <;> cases ks <;> exact absurd h (by simp [okE])
    | _ => exact absurd h (by simp [okE])
  | .ix a i, x, sc, W, X, g, h => by
    cases x with
    | Subscript a' i' q =>
      obtain ⟨h1, h2⟩ := and2 h
      obtain ⟨h3, h4⟩ := and2 h1
      exact plain2 g rfl (s_ix g (sndE tb a a' sc W X g h4).1 (sndE tb i i' sc W X g h2).1 h3)
    | _ => exact absurd h (by simp [okE])
  | .sl a lo hi, x, sc, W, X, g, h => by
    cases x with
    | Subscript a' i' q =>
      cases i' with
      | Slice lo' hi' st p =>
        cases st with
        | none =>
          obtain ⟨h1, h2⟩ := and2 h
          obtain ⟨h3, h4⟩ := and2 h1
          exact plain2 g rfl (s_sl g (sndE tb a a' sc W X g h3).1 (by
            cases lo' with
            | none => exact end_no (by simpa using h4)
            | some y => exact end_yes (okE_nop h4) (sndE tb lo y sc W X g h4).1) (by
            cases hi' with
            | none => exact end_no (by simpa using h2)
            | some y => exact end_yes (okE_nop h2) (sndE tb hi y sc W X g h2).1))
        | some _ => exact absurd h (by simp [okE])
      | _ => exact absurd h (by simp [okE])
    | _ => exact absurd h (by simp [okE])
  | .rev a, x, sc, W, X, g, h => by
    cases x with
    | Subscript a' i' q =>
      cases i' with
      | Slice lo' hi' st p =>
        rcases lo' with _ | lo' <;> rcases hi' with _ | hi' <;> rcases st with _ | st <;> first | (simp [okE] at h; done) | skip
        cases st with
        | UnaryOp o y p2 =>
          cases o with
          | USub =>
            cases y with
            | Constant c k p3 =>
              cases c with
              | int j =>
                obtain ⟨h1, h2⟩ := and2 h
                have e : j = 1 := of_decide_eq_true h1
                subst e
                exact plain2 g rfl (s_rev g (sndE tb a a' sc W X g h2).1)
              | _ => exact absurd h (by simp [okE])
            | _ => exact absurd h (by simp [okE])
          | _ => exact absurd h (by simp [okE])
        | _ => exact absurd h (by simp [okE])
      | _ => exact absurd h (by simp [okE])
    | _ => exact absurd h (by simp [okE])
  | .pop a, x, sc, W, X, g, h => by
    cases x with
    | Call f xs ks q =>
      cases f with
      | Attribute a' y p =>
        rcases xs with _ | ⟨x1, xs⟩ <;> rcases ks with _ | ⟨k1, ks⟩ <;> first | (simp [okE] at h; done) | skip
        obtain ⟨h1, h2⟩ := and2 h
        obtain ⟨h3, h4⟩ := and2 h1
        obtain ⟨h5, h6⟩ := and2 h3
        have e : y = "pop" := of_decide_eq_true h5
        subst e
        exact plain2 g rfl (s_pop (sndE tb a a' sc W X g h2).1 (base_of h6 _ _) h4)
      | _ => exact absurd h (by simp [okE])
    | _ => exact absurd h (by simp [okE])
  | .popAt a i, x, sc, W, X, g, h => by
    cases x with
    | Call f xs ks q =>
      cases f with
      | Attribute a' y p =>
        rcases xs with _ | ⟨i', _ | ⟨x2, xs⟩⟩ <;> rcases ks with _ | ⟨k1, ks⟩ <;> first | (simp [okE] at h; done) | skip
        obtain ⟨h1, h2⟩ := and2 h
        obtain ⟨h3, h4⟩ := and2 h1
        obtain ⟨h5, h6⟩ := and2 h3
        obtain ⟨h7, h8⟩ := and2 h5
        obtain ⟨h9, h10⟩ := and2 h7
        have e : y = "pop" := of_decide_eq_true h9
        subst e
        exact plain2 g rfl (s_popAt (sndE tb a a' sc W X g h4).1 (sndE tb i i' sc W X g h2).1 h6 (base_of h10 _ _) h8)
      | _ => exact absurd h (by simp [okE])
    | _ => exact absurd h (by simp [okE])
  | .app a i, x, sc, W, X, g, h => by
    cases x with
    | Call f xs ks q =>
      cases f with
      | Attribute a' y p =>
        rcases xs with _ | ⟨i', _ | ⟨x2, xs⟩⟩ <;> rcases ks with _ | ⟨k1, ks⟩ <;> first | (simp [okE] at h; done) | skip
        obtain ⟨h1, h2⟩ := and2 h
        obtain ⟨h3, h4⟩ := and2 h1
        obtain ⟨h5, h6⟩ := and2 h3
        obtain ⟨h7, h8⟩ := and2 h5
        obtain ⟨h9, h10⟩ := and2 h7
        have e : y = "append" := of_decide_eq_true h9
        subst e
        exact plain2 g rfl (s_app (sndE tb a a' sc W X g h4).1 (sndE tb i i' sc W X g h2).1 h6 (base_of h10 _ _) h8)
      | _ => exact absurd h (by simp [okE])
    | _ => exact absurd h (by simp [okE])
theorem sndEs (tb : TbOk G n cf T) : ∀ (es : List Ex) (xs : List Expr) (sc : Scope) (W : WX) (X : Cx), Gd G n N sc W X → okEs T N sc es xs = true → xs.all notStar = true ∧ PA X xs (tA G W (evs cf es))
  | [], xs, sc, W, X, g, h => by
    cases xs with
    | nil => exact ⟨rfl, s_nil⟩
    | cons _ _ => exact absurd h (by simp [okEs])
  | e :: es, xs, sc, W, X, g, h => by
    cases xs with
    | nil => exact absurd h (by simp [okEs])
    | cons x xs =>
      obtain ⟨h1, h2⟩ := and2 h
      obtain ⟨h3, h4⟩ := and2 h1
      have z := sndEs tb es xs sc W X g h2
      exact ⟨by simp [h3, z.1], s_cons h3 (sndE tb e x sc W X g h4).1 z.2⟩
theorem sndB (tb : TbOk G n cf T) (an : Bool) : ∀ (es : List Ex) (xs : List Expr) (sc : Scope) (W : WX) (X : Cx) (pos : Pos), Gd G n N sc W X → xs ≠ [] → okEs T N sc es xs = true →
    PE X (.BoolOp (if an then .And else .Or) xs pos) (tE G W (evB cf an es)) ∧ PW X (.BoolOp (if an then .And else .Or) xs pos) (tT G W (evT cf an es))
  | [], xs, sc, W, X, pos, g, hn, h => by
    cases xs with
    | nil => exact absurd rfl hn
    | cons _ _ => exact absurd h (by simp [okEs])
  | e :: es, xs, sc, W, X, pos, g, hn, h => by
    cases xs with
    | nil => exact absurd rfl hn
    | cons x xs =>
      obtain ⟨h1, h2⟩ := and2 h
      obtain ⟨h3, h4⟩ := and2 h1
      have z := sndE tb e x sc W X g h4
      cases xs with
      | nil =>
        cases es with
        | nil => exact ⟨s_bop1 z.1, s_bopT1 z.2⟩
        | cons _ _ => exact absurd h2 (by simp [okEs])
      | cons x2 xs =>
        cases es with
        | nil => exact absurd h2 (by simp [okEs])
        | cons e2 es =>
          have w := sndB tb an (e2 :: es) (x2 :: xs) sc W X pos g (by simp) h2
          exact ⟨s_bop g z.1 w.1, s_bopT z.2 w.2⟩
theorem sndL (tb : TbOk G n cf T) : ∀ (l : Lx) (x : Expr) (sc : Scope) (W : WX) (X : Cx), Gd G n N sc W X → okL T N sc l x = true → PE X x (tL G W (evL cf l)) ∧ plainT x = true
  | .disp es, x, sc, W, X, g, h => by
    cases x with
    | List xs q => exact ⟨s_disp (sndEs tb es xs sc W X g h).2, rfl⟩
    | _ => exact absurd h (by simp [okL])
  | .comp own elt tg it c, x, sc, W, X, g, h => by
    cases x with
    | ListComp elt' gs scope q =>
      rcases gs with _ | ⟨⟨tg', it', ifs, k⟩, _ | ⟨g2, gs⟩⟩
      · exact absurd h (by simp [okL])
      · obtain ⟨h1, h2⟩ := and2 h
        obtain ⟨h3, h4⟩ := and2 h1
        obtain ⟨h5, h6⟩ := and2 h3
        obtain ⟨h7, h8⟩ := and2 h5
        obtain ⟨h9, h10⟩ := and2 h7
        obtain ⟨h11, h12⟩ := and2 h9
        obtain ⟨h13, h14⟩ := and2 h11
        have e : k = 0 := eq_of_beq h13
        subst e
        have l : LcR G n N sc X elt' tg' it' ifs scope (ownOf N own) W tg (evI cf it) (ev cf c).t (ev cf elt).v :=
          { hi := sndI tb it tg' it' sc W X g h6
            ok := h14
            hg := fun Y gy fy => sndT gy (fun x hx => fy x hx) tg tg' h12
            ht := fun Y gy => by
              rcases ifs with _ | ⟨c', _ | ⟨c2, ifs⟩⟩
              · have ec : c = .nop := by
                  cases c <;> first | rfl | exact absurd h2 (by simp [isNop])
                subst ec
                exact s_pts0
              · exact s_pts1 (sndE tb c c' _ _ Y gy h2).2
              · exact absurd h2 (by simp)
            he := fun Y gy => (sndE tb elt elt' _ _ Y gy h4).1
            ho := by rw [own_snd]; exact of_decide_eq_true h10
            ns := h8 }
        have z := s_lc (pos := q) g l
        rw [own_snd] at z
        exact ⟨z, rfl⟩
      · exact absurd h (by simp [okL])
    | _ => exact absurd h (by simp [okL])
  | .ofSeq a, x, sc, W, X, g, h => by
    cases x with
    | Call f xs ks q =>
      rcases xs with _ | ⟨a', _ | ⟨b', xs⟩⟩
      · cases f <;> cases ks <;> exact absurd h (by simp [okL])
      · cases f with
        | Name y p =>
          cases ks with
          | nil =>
            obtain ⟨h1, h2⟩ := and2 h
            obtain ⟨h3, h4⟩ := and2 h1
            obtain ⟨h5, h6⟩ := and2 h3
            obtain ⟨h7, h8⟩ := and2 h5
            have e : y = "list" := of_decide_eq_true h7
            subst e
            exact ⟨s_ofSeq g (gl_of h8 g).1 (tb.bl _ (of_decide_eq_true h6)) h4 (sndE tb a a' sc W X g h2).1, rfl⟩
          | cons _ _ => exact absurd h (by simp [okL])
        | _ => exact absurd h (by simp [okL])
      · cases f <;> cases ks <;> exact absurd h (by simp [okL])
    | _ => exact absurd h (by simp [okL])
theorem sndI (tb : TbOk G n cf T) : ∀ (i : Ix) (tg x : Expr) (sc : Scope) (W : WX) (X : Cx), Gd G n N sc W X → okI T N sc i tg x = true → PI X tg x (tI G W (evI cf i))
  | .seq a, tg, x, sc, W, X, g, h => s_iseq g (sndE tb a x sc W X g (by simpa [okI] using h)).1
  | .rng a, tg, x, sc, W, X, g, h => by
    cases x with
    | Call f xs ks q =>
      rcases xs with _ | ⟨a', _ | ⟨b', xs⟩⟩
      · cases f <;> cases ks <;> exact absurd h (by simp [okI])
      · cases f with
        | Name y p =>
          cases ks with
          | nil =>
            obtain ⟨h1, h2⟩ := and2 h
            obtain ⟨h3, h4⟩ := and2 h1
            obtain ⟨h5, h6⟩ := and2 h3
            obtain ⟨h7, h8⟩ := and2 h5
            have e : y = "range" := of_decide_eq_true h7
            subst e
            exact s_irng g (gl_of h8 g).1 (tb.bl _ (of_decide_eq_true h6)) h4 (sndE tb a a' sc W X g h2).1
          | cons _ _ => exact absurd h (by simp [okI])
        | _ => exact absurd h (by simp [okI])
      · cases f <;> cases ks <;> exact absurd h (by simp [okI])
    | _ => exact absurd h (by simp [okI])
  | .rng2 a b, tg, x, sc, W, X, g, h => by
    cases x with
    | Call f xs ks q =>
      rcases xs with _ | ⟨a', _ | ⟨b', _ | ⟨c', xs⟩⟩⟩
      · cases f <;> cases ks <;> exact absurd h (by simp [okI])
      · cases f <;> cases ks <;> exact absurd h (by simp [okI])
      · cases f with
        | Name y p =>
          cases ks with
          | nil =>
            obtain ⟨h1, h2⟩ := and2 h
            obtain ⟨h3, h4⟩ := and2 h1
            obtain ⟨h5, h6⟩ := and2 h3
            obtain ⟨h7, h8⟩ := and2 h5
            obtain ⟨h9, h10⟩ := and2 h7
            obtain ⟨h11, h12⟩ := and2 h9
            have e : y = "range" := of_decide_eq_true h11
            subst e
            exact s_irng2 g (gl_of h12 g).1 (tb.bl _ (of_decide_eq_true h10)) h8 h6 (sndE tb a a' sc W X g h4).1 (sndE tb b b' sc W X g h2).1
          | cons _ _ => exact absurd h (by simp [okI])
        | _ => exact absurd h (by simp [okI])
      · cases f <;> cases ks <;> exact absurd h (by simp [okI])
    | _ => exact absurd h (by simp [okI])
  | .zip a b, tg, x, sc, W, X, g, h => by
    cases tg with
    | Tuple els kk tp =>
      cases x with
      | Call f xs ks q =>
        rcases xs with _ | ⟨a', _ | ⟨b', _ | ⟨c', xs⟩⟩⟩
        · cases f <;> cases ks <;> exact absurd h (by simp [okI])
        · cases f <;> cases ks <;> exact absurd h (by simp [okI])
        · cases f with
          | Name y p =>
            cases ks with
            | nil =>
              obtain ⟨h1, h2⟩ := and2 h
              obtain ⟨h3, h4⟩ := and2 h1
              obtain ⟨h5, h6⟩ := and2 h3
              obtain ⟨h7, h8⟩ := and2 h5
              obtain ⟨h9, h10⟩ := and2 h7
              obtain ⟨h11, h12⟩ := and2 h9
              have e : y = "zip" := of_decide_eq_true h11
              subst e
              exact s_izip g (gl_of h12 g).1 (tb.bl _ (of_decide_eq_true h10)) h8 h6 (sndE tb a a' sc W X g h4).1 (sndE tb b b' sc W X g h2).1
            | cons _ _ => exact absurd h (by simp [okI])
          | _ => exact absurd h (by simp [okI])
        · cases f <;> cases ks <;> exact absurd h (by simp [okI])
      | _ => exact absurd h (by simp [okI])
    | _ => cases x <;> exact absurd h (by simp [okI])
  | .enum a, tg, x, sc, W, X, g, h => by
    cases tg with
    | Tuple els kk tp =>
      cases x with
      | Call f xs ks q =>
        rcases xs with _ | ⟨a', _ | ⟨b', xs⟩⟩
        · cases f <;> cases ks <;> exact absurd h (by simp [okI])
        · cases f with
          | Name y p =>
            cases ks with
            | nil =>
              obtain ⟨h1, h2⟩ := and2 h
              obtain ⟨h3, h4⟩ := and2 h1
              obtain ⟨h5, h6⟩ := and2 h3
              obtain ⟨h7, h8⟩ := and2 h5
              have e : y = "enumerate" := of_decide_eq_true h7
              subst e
              exact s_ienum g (gl_of h8 g).1 (tb.bl _ (of_decide_eq_true h6)) h4 (sndE tb a a' sc W X g h2).1
            | cons _ _ => exact absurd h (by simp [okI])
          | _ => exact absurd h (by simp [okI])
        · cases f <;> cases ks <;> exact absurd h (by simp [okI])
      | _ => exact absurd h (by simp [okI])
    | _ => cases x <;> exact absurd h (by simp [okI])
end
end
end Mp
namespace Mp
open PySem L2 PySem.Spec
/-! ### how stores go -/
def swF (sc : Scope) (ts vs : List Expr) : Option (Option (List Str)) :=
  if !(ts.length == 2 || ts.length == 3) || vs.length != ts.length then some none
  else if (vs.any fun | .Starred .. => true | _ => false) then some none
  else
    let line := (ts.head?.map (·.pos.line)).getD 0
    let names := ts.filterMap fun
      | .Name id pos => if sc.names.lookup id == some .local && pos.line == line then some id else none
      | _ => none
    if names.length != ts.length || names.eraseDups.length != names.length then some none
    else if vs.all (foldedForSure 8) then some none
    else if vs.all (constantsAlone 8) then none
    else some (some names)
theorem blk_fn {env : PySem.Env} (hk : env.scope.kind = .function) : env.blockKind = .function := by
  unfold Env.blockKind
  rw [hk]
  rfl
theorem sw_eq {env : PySem.Env} {ts vs : List Expr} {k k2 : Nat} {p p2 : Pos} {r : Option (List Str)} (hk : env.scope.kind = .function) (h : swF env.scope ts vs = some r) :
    swappedStores [.Tuple ts k p] (.Tuple vs k2 p2) env = pure r := by
  have hb := blk_fn hk
  unfold swF at h
  unfold swappedStores
  simp only [hb]
  split at h
  · rename_i h1
    cases h
    rw [if_pos (by simp only [Bool.or_eq_true] at h1 ⊢; exact .inl h1)]
  · rename_i h1
    rw [if_neg (by
      simp only [Bool.or_eq_true] at h1 ⊢
      intro z
      rcases z with z | z
      · exact h1 z
      · exact absurd z (by decide))]
    split at h
    · rename_i h2
      cases h
      exact if_pos h2
    · rename_i h2
      refine (if_neg h2).trans ?_
      simp only at h
      split at h
      · rename_i h3
        cases h
        exact if_pos h3
      · rename_i h3
        refine (if_neg h3).trans ?_
        split at h
        · rename_i h4
          cases h
          exact if_pos h4
        · rename_i h4
          refine (if_neg h4).trans ?_
          split at h
          · cases h
          · rename_i h5
            cases h
            refine (if_neg h5).trans ?_
            rfl
def swW (sc : Scope) (v t : Expr) : Option Bool := match v with
  | .ListComp _ _ scope _ => match t with
    | .Name y p => some (sc.names.lookup y == some .local && p.line == v.pos.line && !(scope.names.any fun (n, k) => n == y && (k == .local || k == .cell)))
    | _ => some false
  | .SetComp _ _ _ _ => none
  | .DictComp _ _ _ _ _ => none
  | _ => some false
theorem swW_eq {env : PySem.Env} {v t : Expr} {l : Nat} {r : Bool} (hk : env.scope.kind = .function) (h : swW env.scope v t = some r) : swapsWith v (some t) l env = pure r := by
  have hb := blk_fn hk
  cases v with
  | ListComp elt gs scope p =>
    cases t with
    | Name y py =>
      have e : r = (env.scope.names.lookup y == some .local && py.line == (Expr.ListComp elt gs scope p).pos.line && !(scope.names.any fun (n, k) => n == y && (k == .local || k == .cell))) := (Option.some.inj h).symm
      subst e
      unfold swapsWith
      simp only [hb]
      have hr : (ScopeKind.function == ScopeKind.function) = true := by decide
      rw [hr, Bool.true_and]
      rfl
    | _ =>
      have e : r = false := (Option.some.inj h).symm
      subst e
      rfl
  | SetComp _ _ _ _ => cases h
  | DictComp _ _ _ _ _ => cases h
  | _ =>
    have e : r = false := (Option.some.inj h).symm
    subst e
    rfl
def notComp : Expr → Bool
  | .ListComp _ _ _ _ => false
  | .SetComp _ _ _ _ => false
  | .DictComp _ _ _ _ _ => false
  | _ => true
theorem drop_no {v : Expr} {l : Nat} {env : PySem.Env} (h : notComp v = true) : swapsWith v none l env = pure false := by
  cases v <;> first | rfl | cases h
section
variable (T : Tb) (N : List Str)
def plainA (sc : Scope) (t v : Expr) : Bool := decide (swW sc v t = some false) && (match t, v with
  | .Tuple ts _ _, .Tuple vs _ _ => decide (swF sc ts vs = some none)
  | .List _ _, _ => false
  | _, _ => true)
def locB (sc : Scope) (x : Str) : Bool := match sc.names.lookup x with
  | some .local => true
  | _ => false
def parA (sc : Scope) (tg : Tg) (e : Ex) (t v : Expr) : Bool := match tg, e, t, v with
  | .tup [.v i, .v j], .tup es, .Tuple [.Name x _, .Name y _] _ _, .Tuple [a, b] _ _ => decide (swF sc (match t with | .Tuple ts _ _ => ts | _ => []) [a, b] = some (some [x, y])) && decide (N[i]? = some x) && decide (N[j]? = some y) && decide (i ≠ j) && locB sc x && locB sc y && okEs T N sc es [a, b]
  | .tup [.v i, .v j, .v l], .tup es, .Tuple [.Name x _, .Name y _, .Name z _] _ _, .Tuple [a, b, c] _ _ =>
    decide (swF sc (match t with | .Tuple ts _ _ => ts | _ => []) [a, b, c] = some (some [x, y, z])) && decide (N[i]? = some x) && decide (N[j]? = some y) && decide (N[l]? = some z) && decide (i ≠ j) && decide (i ≠ l) && decide (j ≠ l) && locB sc x && locB sc y && locB sc z && okEs T N sc es [a, b, c]
  | _, _, _, _ => false
def lcA (sc : Scope) (tg : Tg) (e : Ex) (t v : Expr) : Bool := match tg, t with
  | .v i, .Name y _ => decide (swW sc v t = some true) && decide (N[i]? = some y) && locB sc y && (match e with
    | .fz (.comp own elt tg it c) => okL T N sc (.comp own elt tg it c) v
    | .mu (.comp own elt tg it c) => okL T N sc (.comp own elt tg it c) v
    | _ => false)
  | _, _ => false
def okAsg (sc : Scope) (tg : Tg) (e : Ex) (t v : Expr) : Bool :=
  if plainA sc t v then notStar t && okT N sc (fun _ => true) tg t && okE T N sc e v else if parA T N sc tg e t v then true else lcA T N sc tg e t v
mutual
def okS (sc : Scope) : Sx → Stmt → Bool
  | .asg tg e, .Assign [t] v _ => okAsg T N sc tg e t v
  | .drop e, .Expr v _ => notComp v && okE T N sc e v
  | .setIx a i e, .Assign [.Subscript a' i' p] v _ => decide (swW sc v (.Subscript a' i' p) = some false) && plainIx i' && okE T N sc e v && okE T N sc a a' && okE T N sc i i'
  | .ifS c a b, .If c' a' b' _ => okE T N sc c c' && okSs sc a a' && okSs sc b b'
  | .whileS c a, .While c' a' [] _ => okE T N sc c c' && okSs sc a a'
  | .forS t it a, .For t' it' a' [] _ => okT N sc (fun _ => true) t t' && okI T N sc it t' it' && notSet it' && okSs sc a a'
  | .ret e, .Return (some v) _ => okE T N sc e v
  | .ret .non, .Return none _ => true
  | .brk, .Break _ => true
  | .cont, .Continue _ => true
  | .pass, .Pass _ => true
  | .pass, .Expr (.Constant (.str _) _ _) _ => true
  | _, _ => false
def okSs (sc : Scope) : List Sx → List Stmt → Bool
  | [], [] => true
  | s :: r, st :: sts => okS sc s st && okSs sc r sts
  | _, _ => false
end
end
section
variable {T : Tb} {G : Wd} {n : Nat} {N : List Str} {cf : Nat → List Tv → M Tv}
theorem loc_is {sc : Scope} {x : Str} (h : locB sc x = true) : sc.names.lookup x = some .local := by
  unfold locB at h
  split at h
  · assumption
  · cases h
theorem lcR_of (tb : TbOk G n cf T) {sc : Scope} {W : WX} {X : Cx} {own : List Nat} {elt : Ex} {tg : Tg} {it : Ix} {c : Ex} {v : Expr} (g : Gd G n N sc W X) (h : okL T N sc (.comp own elt tg it c) v = true) :
    ∃ elt' tg' it' ifs scope q, v = .ListComp elt' [⟨tg', it', ifs, 0⟩] scope q ∧ LcR G n N sc X elt' tg' it' ifs scope (ownOf N own) W tg (evI cf it) (ev cf c).t (ev cf elt).v := by
  cases v with
  | ListComp elt' gs scope q =>
    rcases gs with _ | ⟨⟨tg', it', ifs, k⟩, _ | ⟨g2, gs⟩⟩
    · exact absurd h (by simp [okL])
    · obtain ⟨h1, h2⟩ := and2 h
      obtain ⟨h3, h4⟩ := and2 h1
      obtain ⟨h5, h6⟩ := and2 h3
      obtain ⟨h7, h8⟩ := and2 h5
      obtain ⟨h9, h10⟩ := and2 h7
      obtain ⟨h11, h12⟩ := and2 h9
      obtain ⟨h13, h14⟩ := and2 h11
      have e : k = 0 := eq_of_beq h13
      subst e
      exact ⟨elt', tg', it', ifs, scope, q, rfl,
        { hi := sndI tb it tg' it' sc W X g h6
          ok := h14
          hg := fun Y gy fy => sndT gy (fun x hx => fy x hx) tg tg' h12
          ht := fun Y gy => by
            rcases ifs with _ | ⟨c', _ | ⟨c2, ifs⟩⟩
            · have ec : c = .nop := by
                cases c <;> first | rfl | exact absurd h2 (by simp [isNop])
              subst ec
              exact s_pts0
            · exact s_pts1 (sndE tb c c' _ _ Y gy h2).2
            · exact absurd h2 (by simp)
          he := fun Y gy => (sndE tb elt elt' _ _ Y gy h4).1
          ho := by rw [own_snd]; exact of_decide_eq_true h10
          ns := h8 }⟩
    · exact absurd h (by simp [okL])
  | _ => exact absurd h (by simp [okL])
theorem sndAsg (tb : TbOk G n cf T) {sc : Scope} {W : WX} {X : Cx} {tg : Tg} {e : Ex} {t v : Expr} {pos : Pos} (g : Gd G n N sc W X) (hf : ∀ x, X.fn x = true) (hk : sc.kind = .function) (h : okAsg T N sc tg e t v = true) :
    PS X (.Assign [t] v pos) (tS G W (asgM tg (ev cf e).v)) := by
  have hk' : X.env.scope.kind = .function := by rw [g.sc]; exact hk
  unfold okAsg at h
  split at h
  · rename_i hp
    obtain ⟨h1, h2⟩ := and2 h
    obtain ⟨h3, h4⟩ := and2 h1
    unfold plainA at hp
    obtain ⟨p1, p2⟩ := and2 hp
    refine s_asg (sndE tb e v sc W X g h2).1 (sndT g (fun x _ => hf x) tg t h4) (swW_eq hk' (by rw [g.sc]; exact of_decide_eq_true p1)) ?_ h3
    cases t with
    | Tuple ts k p =>
      cases v with
      | Tuple vs k2 q => exact sw_eq hk' (by rw [g.sc]; exact of_decide_eq_true p2)
      | _ => rfl
    | List ts p => cases v <;> exact absurd p2 (by simp)
    | _ => cases v <;> rfl
  · split at h
    · rename_i hp
      unfold parA at hp
      split at hp
      · rename_i i j es x px y py kt pt a b k2 pt2 _
        obtain ⟨h1, h2⟩ := and2 hp
        obtain ⟨h3, h4⟩ := and2 h1
        obtain ⟨h5, h6⟩ := and2 h3
        obtain ⟨h7, h8⟩ := and2 h5
        obtain ⟨h9, h10⟩ := and2 h7
        obtain ⟨h11, h12⟩ := and2 h9
        exact s_par2 g (of_decide_eq_true h12) (of_decide_eq_true h10) (of_decide_eq_true h8) (loc_is h6) (loc_is h4) (sndEs tb es [a, b] sc W X g h2).2 (sw_eq hk' (by rw [g.sc]; exact of_decide_eq_true h11))
      · rename_i i j l es x px y py z pz kt pt a b c k2 pt2 _
        obtain ⟨h1, h2⟩ := and2 hp
        obtain ⟨h3, h4⟩ := and2 h1
        obtain ⟨h5, h6⟩ := and2 h3
        obtain ⟨h7, h8⟩ := and2 h5
        obtain ⟨h9, h10⟩ := and2 h7
        obtain ⟨h11, h12⟩ := and2 h9
        obtain ⟨h13, h14⟩ := and2 h11
        obtain ⟨h15, h16⟩ := and2 h13
        obtain ⟨h17, h18⟩ := and2 h15
        obtain ⟨h19, h20⟩ := and2 h17
        exact s_par3 g (of_decide_eq_true h20) (of_decide_eq_true h18) (of_decide_eq_true h16) (of_decide_eq_true h14) (of_decide_eq_true h12) (of_decide_eq_true h10) (loc_is h8) (loc_is h6) (loc_is h4) (sndEs tb es [a, b, c] sc W X g h2).2 (sw_eq hk' (by rw [g.sc]; exact of_decide_eq_true h19))
      · cases hp
    · unfold lcA at h
      split at h
      · rename_i i y py _ _
        obtain ⟨h1, h2⟩ := and2 h
        obtain ⟨h3, h4⟩ := and2 h1
        obtain ⟨h5, h6⟩ := and2 h3
        have sw : swapsWith v (some (.Name y py)) pos.line X.env = pure true := swW_eq hk' (by rw [g.sc]; exact of_decide_eq_true h5)
        split at h2
        · rename_i own elt tg2 it c
          obtain ⟨elt', tg', it', ifs, scope, q, rfl, l⟩ := lcR_of tb g h2
          refine s_asgLc g l (of_decide_eq_true h6) (loc_is h4) sw fun σ H Q z => ?_
          rw [own_snd]
          exact fz_imp z
        · rename_i own elt tg2 it c
          obtain ⟨elt', tg', it', ifs, scope, q, rfl, l⟩ := lcR_of tb g h2
          refine s_asgLc g l (of_decide_eq_true h6) (loc_is h4) sw fun σ H Q z => ?_
          rw [own_snd]
          exact mu_imp z
        · cases h2
      · cases h
mutual
theorem sndS (tb : TbOk G n cf T) (m : Nat) : ∀ (s : Sx) (st : Stmt) (sc : Scope) (W : WX) (X : Cx), Gd G n N sc W X → (∀ x, X.fn x = true) → sc.kind = .function → PassesOwn (model X.prog X.w) X.A X.env X.xe → okS T N sc s st = true → PS X st (tS G W (ex cf m s))
  | .asg tg e, st, sc, W, X, g, hf, hk, hp, h => by
    cases st with
    | Assign ts v p =>
      rcases ts with _ | ⟨t, _ | ⟨t2, ts⟩⟩
      · exact Bool.noConfusion (show false = true from h)
      · exact sndAsg tb g hf hk h
      · exact Bool.noConfusion (show false = true from h)
    | _ => exact Bool.noConfusion (show false = true from h)
  | .drop e, st, sc, W, X, g, hf, hk, hp, h => by
    cases st with
    | Expr v p =>
      obtain ⟨h1, h2⟩ := and2 h
      exact s_drop (sndE tb e v sc W X g h2).1 (drop_no h1)
    | _ => exact Bool.noConfusion (show false = true from h)
  | .setIx a i e, st, sc, W, X, g, hf, hk, hp, h => by
    cases st with
    | Assign ts v p =>
      rcases ts with _ | ⟨t, _ | ⟨t2, ts⟩⟩
      · exact Bool.noConfusion (show false = true from h)
      · cases t with
        | Subscript a' i' p2 =>
          obtain ⟨h1, h2⟩ := and2 h
          obtain ⟨h3, h4⟩ := and2 h1
          obtain ⟨h5, h6⟩ := and2 h3
          obtain ⟨h7, h8⟩ := and2 h5
          have hk' : X.env.scope.kind = .function := by rw [g.sc]; exact hk
          exact s_setIx (sndE tb a a' sc W X g h4).1 (sndE tb i i' sc W X g h2).1 (sndE tb e v sc W X g h6).1 h8 (swW_eq (v := v) (t := .Subscript a' i' p2) (l := p.line) (r := false) hk' (by rw [g.sc]; exact of_decide_eq_true h7)) (by cases v <;> rfl)
        | _ => exact Bool.noConfusion (show false = true from h)
      · cases t <;> exact Bool.noConfusion (show false = true from h)
    | _ => exact Bool.noConfusion (show false = true from h)
  | .ifS c a b, st, sc, W, X, g, hf, hk, hp, h => by
    cases st with
    | If c' a' b' p =>
      obtain ⟨h1, h2⟩ := and2 h
      obtain ⟨h3, h4⟩ := and2 h1
      exact s_if (sndE tb c c' sc W X g h3).2 (sndSs tb m a a' sc W X g hf hk hp h4) (sndSs tb m b b' sc W X g hf hk hp h2)
    | _ => exact Bool.noConfusion (show false = true from h)
  | .whileS c a, st, sc, W, X, g, hf, hk, hp, h => by
    cases st with
    | While c' a' b' p =>
      cases b' with
      | nil =>
        obtain ⟨h1, h2⟩ := and2 h
        exact s_while hp (sndE tb c c' sc W X g h1).2 (sndSs tb m a a' sc W X g hf hk hp h2) m
      | cons _ _ => exact Bool.noConfusion (show false = true from h)
    | _ => exact Bool.noConfusion (show false = true from h)
  | .forS t it a, st, sc, W, X, g, hf, hk, hp, h => by
    cases st with
    | For t' it' a' b' p =>
      cases b' with
      | nil =>
        obtain ⟨h1, h2⟩ := and2 h
        obtain ⟨h3, h4⟩ := and2 h1
        obtain ⟨h5, h6⟩ := and2 h3
        exact s_for g hp (sndI tb it t' it' sc W X g h6) (sndT g (fun x _ => hf x) t t' h5) (sndSs tb m a a' sc W X g hf hk hp h2) h4
      | cons _ _ => exact Bool.noConfusion (show false = true from h)
    | _ => exact Bool.noConfusion (show false = true from h)
  | .ret e, st, sc, W, X, g, hf, hk, hp, h => by
    cases st with
    | Return v p =>
      cases v with
      | some v =>
        have h' : okE T N sc e v = true := by
          cases e <;> exact h
        exact s_ret (sndE tb e v sc W X g h').1
      | none =>
        cases e with
        | non => exact s_retN
        | _ => exact Bool.noConfusion (show false = true from h)
    | _ => cases e <;> exact Bool.noConfusion (show false = true from h)
  | .brk, st, sc, W, X, g, hf, hk, hp, h => by
    cases st with
    | Break p => exact s_break
    | _ => exact Bool.noConfusion (show false = true from h)
  | .cont, st, sc, W, X, g, hf, hk, hp, h => by
    cases st with
    | Continue p => exact s_cont
    | _ => exact Bool.noConfusion (show false = true from h)
  | .pass, st, sc, W, X, g, hf, hk, hp, h => by
    cases st with
    | Pass p => exact s_pass
    | Expr v p =>
      cases v with
      | Constant c k p2 =>
        cases c with
        | str x => exact s_doc
        | _ => exact Bool.noConfusion (show false = true from h)
      | _ => exact Bool.noConfusion (show false = true from h)
    | _ => exact Bool.noConfusion (show false = true from h)
theorem sndSs (tb : TbOk G n cf T) (m : Nat) : ∀ (s : List Sx) (st : List Stmt) (sc : Scope) (W : WX) (X : Cx), Gd G n N sc W X → (∀ x, X.fn x = true) → sc.kind = .function → PassesOwn (model X.prog X.w) X.A X.env X.xe → okSs T N sc s st = true → PSs X st (tS G W (exs cf m s))
  | [], st, sc, W, X, g, hf, hk, hp, h => by
    cases st with
    | nil => exact s_snil
    | cons _ _ => exact Bool.noConfusion (show false = true from h)
  | s :: r, st, sc, W, X, g, hf, hk, hp, h => by
    cases st with
    | nil => exact Bool.noConfusion (show false = true from h)
    | cons t ts =>
      obtain ⟨h1, h2⟩ := and2 h
      exact s_scons (sndS tb m s t sc W X g hf hk hp h1) (sndSs tb m r ts sc W X g hf hk hp h2)
end
end
end Mp
namespace Mp
open PySem L2 PySem.Spec PyProof.Rows
/-! ### a def keeps its promise -/
section
variable {G : Wd} {ν μ ν' μ' ν0 : List Addr} {H H' H0 : Hp} {S S' : Sto}
theorem pre_at {n : Nat} {a : Addr} (p : μ <+: μ') (h0 : ∃ b, μ[n]? = some b) (h : μ'[n]? = some a) : μ[n]? = some a := by
  obtain ⟨b, hb⟩ := h0
  obtain ⟨r, rfl⟩ := p
  rw [List.getElem?_append_left (List.getElem?_eq_some_iff.mp hb).1] at h
  exact h
mutual
/-- a tree that stood ahead names places of then alone -/
theorem Dn.cut (p : μ <+: μ') : ∀ (t : Tv) (v v0 : V), Dn G ν0 μ H0 t v0 → Dn G ν' μ' H' t v → Dn G ν' μ H' t v
  | .non, _, _, _, h => h
  | .bl _, _, _, _, h => h
  | .int _, _, _, _, h => h
  | .str _, _, _, _, h => h
  | .tup ts, v, v0, h0, h => by
    simp only [Dn] at h h0 ⊢
    obtain ⟨a, vs, e, f, d⟩ := h
    obtain ⟨_, ws, _, _, d0⟩ := h0
    exact ⟨a, vs, e, f, Dns.cut p ts vs ws d0 d⟩
  | .lst ts, v, v0, h0, h => by
    simp only [Dn] at h h0 ⊢
    obtain ⟨a, vs, e, f, d⟩ := h
    obtain ⟨_, ws, _, _, d0⟩ := h0
    exact ⟨a, vs, e, f, Dns.cut p ts vs ws d0 d⟩
  | .dct, _, _, _, h => h
  | .scr ts, v, v0, h0, h => by
    simp only [Dn] at h h0 ⊢
    obtain ⟨a, vs, e, f, d⟩ := h
    obtain ⟨_, ws, _, _, d0⟩ := h0
    exact ⟨a, vs, e, f, Dns.cut p ts vs ws d0 d⟩
  | .ins c fs, v, v0, h0, h => by
    simp only [Dn] at h h0 ⊢
    obtain ⟨a, dx, C, vs, e, n, q, g, m, d⟩ := h
    obtain ⟨_, _, _, ws, _, _, _, _, _, d0⟩ := h0
    exact ⟨a, dx, C, vs, e, n, q, g, m, Dns.cut p fs _ _ d0 d⟩
  | .cell n, v, v0, h0, h => by
    simp only [Dn] at h h0 ⊢
    obtain ⟨a, e, q⟩ := h
    obtain ⟨b, _, q0⟩ := h0
    exact ⟨a, e, pre_at p ⟨b, q0⟩ q⟩
theorem Dns.cut (p : μ <+: μ') : ∀ (ts : List Tv) (vs ws : List V), Dns G ν0 μ H0 ts ws → Dns G ν' μ' H' ts vs → Dns G ν' μ H' ts vs
  | [], _, _, _, h => h
  | t :: r, vs, ws, h0, h => by
    simp only [Dns] at h h0 ⊢
    obtain ⟨v, vr, e, d1, d2⟩ := h
    obtain ⟨w, wr, _, d3, d4⟩ := h0
    exact ⟨v, vr, e, Dn.cut p t v w d3 d1, Dns.cut p r vr wr d4 d2⟩
end
theorem StR.cut (s0 : StR G ν μ S H) (s : StR G ν' μ' S' H') (p : μ <+: μ') (e : S'.take S.length = S) : StR G ν' μ S H' := by
  have mem : ∀ a ∈ μ, a ∈ μ' := fun a ha => p.subset ha
  refine ⟨s0.len, s0.nd, fun a ha => s.sub a (mem a ha), s.trk, fun n o h => ?_⟩
  have hn : n < S.length := (List.getElem?_eq_some_iff.mp h).1
  have h' : S'[n]? = some o := by
    rw [← e, List.getElem?_take_of_lt hn] at h
    exact h
  obtain ⟨a0, e0, r0⟩ := s0.ob n o h
  obtain ⟨a, e1, r⟩ := s.ob n o h'
  have e2 := pre_at p ⟨a0, e0⟩ e1
  refine ⟨a, e2, ?_⟩
  cases o with
  | lst ts =>
    obtain ⟨vs, q, d⟩ := r
    obtain ⟨ws, _, d0⟩ := r0
    exact ⟨vs, q, Dns.cut p ts vs ws d0 d⟩
  | ins c fs =>
    obtain ⟨dx, C, vs, q, g, m, d⟩ := r
    obtain ⟨_, _, ws, _, _, _, d0⟩ := r0
    exact ⟨dx, C, vs, q, g, m, Dns.cut p fs _ _ d0 d⟩
  | dct kvs =>
    obtain ⟨ks, q, d1, d2⟩ := r
    obtain ⟨ws, _, d3, d4⟩ := r0
    exact ⟨ks, q, Dns.cut p _ _ _ d3 d1, Dns.cut p _ _ _ d4 d2⟩
theorem Af.cut (s0 : StR G ν μ S H) (a : Af G ν μ H ν' μ' S' H') (e : S'.take S.length = S) : Af G ν μ H ν' μ S H' :=
  ⟨a.kp, List.prefix_refl _, s0.cut a.st a.pre e, fun _ h => .inl h, a.lk⟩
theorem en_start {N : List Str} {ts : List Tv} {vs : List V} {n k : Nat} (d : Dns G ν μ H ts vs) (h1 : ts.length = k) (h2 : N.length = n) : EnR G ν μ H (ts.map some ++ List.replicate (n - k) none) (L2.start N vs) := by
  have hl := d.length
  subst h1 h2
  refine ⟨by simp [L2.start, hl], fun i t e => ?_⟩
  by_cases hi : i < ts.length
  · rw [List.getElem?_append_left (by simpa using hi), List.getElem?_map] at e
    obtain ⟨t', e1, e2⟩ := Option.map_eq_some_iff.mp e
    cases e2
    obtain ⟨v, e3, d3⟩ := d.get e1
    refine ⟨v, ?_, d3⟩
    unfold L2.start
    rw [List.getElem?_append_left (by simpa using (by omega)), List.getElem?_map, e3]
    rfl
  · rw [List.getElem?_append_right (by simpa using (by omega))] at e
    obtain ⟨_, q⟩ := List.getElem?_eq_some_iff.mp e
    simp at q
end
/-- a def as the small text has it -/
structure En where
  x : Str
  i : Nat
  N : List Str
  ps : List Str
  d : Df
  st : Stmt
def En.dd (e : En) : He.DefD := ⟨(e.x, none), e.x, e.x, L2.defArgs e.st, L2.defBody e.st, L2.defScope e.st, [], []⟩
/-- the functions, the last one first -/
def tab : List En → Nat → List Tv → M Tv
  | [], _ => fun _ => bad
  | e :: r, i => if i = e.i then runD (tab r) e.d else tab r i
def okEn (T : Tb) (e : En) : Bool := okSs T e.N (L2.defScope e.st) e.d.body (L2.defBody e.st) && decide (e.ps.length = e.d.k) && decide (e.N.length = e.d.n) && decide (e.N.Nodup) && decide (e.N.take e.ps.length = e.ps) &&
  (match (L2.defScope e.st).kind with | .function => true | _ => false) && !(L2.defScope e.st).isCoroutine && !(L2.defScope e.st).isGenerator && (e.ps.all fun x => tgB (L2.defScope e.st) (fun _ => true) x) && (L2.defScope e.st).names.all (fun y => decide (y.2 ≠ .free))
def fnsOf (r : List En) : List (Str × Nat) := r.map fun e => (e.x, e.i)
def okAll (T : Tb) : List En → Bool
  | [] => true
  | e :: r => okEn { T with fns := fnsOf r } e && decide (e.i ∉ r.map (·.i)) && okAll T r
theorem def_ok {G : Wd} {n : Nat} {cf : Nat → List Tv → M Tv} {T : Tb} {e : En} {f : Addr} {fd : FuncData} (tb : TbOk G n cf T) (hs : ∃ o, G.base.get? sysModules = some o) (h : okEn T e = true)
    (F : FunD G.K e.x e.x (L2.defArgs e.st) (L2.defBody e.st) (L2.defScope e.st) [] [] f fd) : FnG G (n + 1) f fd e.ps (spF G (runD cf e.d)) := by
  obtain ⟨h, k10⟩ := and2 h
  obtain ⟨h, k9⟩ := and2 h
  obtain ⟨h, k8⟩ := and2 h
  obtain ⟨h, k7⟩ := and2 h
  obtain ⟨h, k6⟩ := and2 h
  obtain ⟨h, k5⟩ := and2 h
  obtain ⟨h, k4⟩ := and2 h
  obtain ⟨h, k3⟩ := and2 h
  obtain ⟨k1, k2⟩ := and2 h
  have hkind : (L2.defScope e.st).kind = .function := by
    split at k6
    · assumption
    · cases k6
  have hnd : e.N.Nodup := of_decide_eq_true k4
  have par : ∀ x ∈ e.ps, (L2.defScope e.st).names.lookup x = some .local ∨ (L2.defScope e.st).names.lookup x = some .cell := fun x hx => by
    have z := List.all_eq_true.mp k9 x hx
    unfold tgB at z
    split at z
    · exact .inl (by assumption)
    · exact .inr (by assumption)
    · cases z
  have sc : FnScope e.N e.ps (L2.defScope e.st) :=
    ⟨hkind, by simpa using k7, by simpa using k8, hnd, of_decide_eq_true k5, par, fun y hy => of_decide_eq_true (List.all_eq_true.mp k10 y hy)⟩
  obtain ⟨oc, od, dV, kV, doc, pm, an, cdv, ct, osl, rfl, lk, hcd, _, _⟩ := F.ex
  refine fnG_of lk hcd sc (fun vs H Q E z => ?_) fun A outer s H vs Q E hr hg z => ?_
  · obtain ⟨ts, S, ν, μ, st, d, z⟩ := z
    unfold runD at z
    split at z
    · rename_i hl
      rw [← d.length, hl, of_decide_eq_true k2]
    · exact z.elim
  · have g : Gd G n e.N (L2.defScope e.st) (fun c d _ H' => E c d H') (cxOf (CX G.P G.w) G.P G.w G.K G.mg G.base e.N e.x (L2.defScope e.st) f cdv A outer s H E) :=
      ⟨⟨rfl, rfl, rfl, rfl, rfl, hg⟩, rfl, rfl, hnd, rfl, hr, takes_of rfl rfl rfl rfl, hs⟩
    refine ⟨tS G (fun c d _ H' => E c d H') (exs cf Fu e.d.body), sndSs tb Fu e.d.body (L2.defBody e.st) _ _ _ g (fun _ => rfl) hkind (passes_of rfl) k1, ?_⟩
    obtain ⟨ts, S, ν, μ, st, d, z⟩ := z
    unfold runD at z
    split at z
    · rename_i hl
      refine ⟨ts.map some ++ List.replicate (e.d.n - e.d.k) none, S, ν, μ, ⟨st, en_start d hl (of_decide_eq_true k3)⟩, ?_⟩
      cases ee : exs cf Fu e.d.body (ts.map some ++ List.replicate (e.d.n - e.d.k) none) S with
      | nx env' S' => rw [ee] at z; exact fun σ' H' ν' μ' a _ => z .non H' ν' μ' a dn_non
      | rt t S' =>
        rw [ee] at z
        intro v H' ν' μ' a d'
        simp only at z
        split at z
        · rename_i hc
          exact z v H' ν' μ (Af.cut st a hc.1) (Dn.pure t v hc.2 d')
        · exact z v H' ν' μ' a d'
      | ex c fs e' S' => rw [ee] at z; exact fun cls dx σ' H' ν' μ' a _ x => z cls dx H' ν' μ' a x
      | _ => rw [ee] at z; exact z.elim
    · exact z.elim
/-- each def's function object, its place -/
structure EnOk (G : Wd) (e : En) : Prop where
  ex : ∃ f fd, FunD G.K e.x e.x (L2.defArgs e.st) (L2.defBody e.st) (L2.defScope e.st) [] [] f fd ∧ G.mg e.x = some (.ref f) ∧ Binds G.K fd e.ps []
theorem tab_ok {G : Wd} {T : Tb} (hs : ∃ o, G.base.get? sysModules = some o) (gl : ∀ x t, (x, t) ∈ T.gls → ∃ v u, G.mg x = some u ∧ RelV v u ∧ ∀ ν μ H, Dn G ν μ H t v) (bl : ∀ x, x ∈ T.bls → G.mg x = none)
    (kd : ∀ x k, (x, k) ∈ T.kds → ∃ kv u, KdV G k kv ∧ RelV kv u ∧ (G.mg x = some u ∨ (G.mg x = none ∧ bootBuiltins x = some u))) :
    ∀ (es : List En), okAll T es = true → (∀ e ∈ es, EnOk G e) → TbOk G es.length (tab es) { T with fns := fnsOf es }
  | [], _, _ => ⟨fun x i h => (List.not_mem_nil h).elim, gl, bl, kd⟩
  | e :: r, h, ho => by
    obtain ⟨h, h3⟩ := and2 h
    obtain ⟨h1, h2⟩ := and2 h
    have ih := tab_ok hs gl bl kd r h3 fun e he => ho e (List.mem_cons_of_mem _ he)
    obtain ⟨f, fd, F, hm, hb⟩ := (ho e List.mem_cons_self).ex
    refine ⟨fun x i hx => ?_, gl, bl, kd⟩
    rcases List.mem_cons.mp (show (x, i) ∈ (e.x, e.i) :: fnsOf r from hx) with q | q
    · cases q
      refine ⟨r.length + 1, f, fd, e.ps, ?_, Nat.le_refl _, hm, F.kp, hb⟩
      have et : tab (e :: r) e.i = runD (tab r) e.d := if_pos rfl
      rw [et]
      exact def_ok ih hs h1 F
    · obtain ⟨k, fa, fd', ps, F', hk, hm', hki, hb'⟩ := ih.fn x i q
      refine ⟨k, fa, fd', ps, ?_, Nat.le_succ_of_le hk, hm', hki, hb'⟩
      have hi : i ≠ e.i := fun z => (of_decide_eq_true h2) (by
        obtain ⟨y, hy, ey⟩ := List.mem_map.mp q
        cases ey
        exact List.mem_map.mpr ⟨y, hy, z⟩)
      have et : tab (e :: r) i = tab r i := if_neg hi
      rw [et]
      exact F'
end Mp
noncomputable section
namespace Mp
open PySem L2 PySem.Spec PyProof.Rows
/-! ### what is observed behind the top -/
abbrev AlM : Type := He.AlD × Bool
def isDct : Option Obj → Bool
  | some o => decide (o.cls = .type "dict")
  | none => false
def obsM (n : Nat) (fa : List He.Fa) (fn : List He.DefD) (g : Addr → Option Obj) : AlM := (He.obsD fa fn (He.frG g (He.asD g n)), isDct (g sysModules))
theorem isDct_of {o : Option Obj} (h : isDct o = true) : ∃ u, o = some u ∧ u.cls = .type "dict" := by
  cases o with
  | none => cases h
  | some u => exact ⟨u, rfl, of_decide_eq_true h⟩
def hookM (n : Nat) (fa : List He.Fa) (fn : List He.DefD) : PySem.W.Hook where
  α := AlM
  obs := fun s => obsM n fa fn s.heap.get?
  val := fun _ => (He.valD fn, true)
  says := fun _ h => ∃ K : PySem.W.Frag, K.In h ∧ He.SaysD fa fn K ∧ ∃ o, h.get? sysModules = some o ∧ o.cls = .type "dict"
  of := fun _ _ e => ⟨_, He.frG_in, congrArg (fun z : AlM => z.1) e, isDct_of (congrArg (fun z : AlM => z.2) e)⟩
  keeps := fun _ _ _ ⟨K, hK, c, o, ho, hc⟩ k => ⟨K, PySem.W.Frag.In.keeps hK k, c, o, k _ _ ho, hc⟩
theorem obsM_eq {n : Nat} {fa : List He.Fa} {fn : List He.DefD} {g : Addr → Option Obj} {s : Shared} (h : ∀ a, g a = s.heap.get? a) : obsM n fa fn g = (hookM n fa fn).obs s := by
  have e : g = s.heap.get? := funext h
  rw [e]
  rfl
/-! ### the call of the law -/
theorem dns_ints {G : Wd} {ν μ : List Addr} {H : Hp} : ∀ ns : List Int, Dns G ν μ H (ns.map Tv.int) (ns.map V.int)
  | [] => by simp only [List.map_nil, Dns]
  | n :: r => by
    simp only [List.map_cons, Dns]
    exact ⟨_, _, rfl, dn_int, dns_ints r⟩
theorem law_callM {P : Program} {w : World} {K : PySem.W.Frag} {cl : Nat → Str × List Str} {mg mb : Str → Option Value} {k : Nat} {fa a : Addr} {fd : FuncData} {x : Str} {m : List Tv → M Tv} {s₁ : Shared} {vs : List Value} {ns : List Int}
    (KX : K.In s₁.heap) (hns : s₁.heap.Ns mainGlobals mg) (hb : s₁.heap.Ns builtinsNs mb) (hbb : ∀ x : Str, x ≠ "__name__" → mb x = bootBuiltins x) (hlim : s₁.heap.NoLimit) (hg : s₁.gens = #[]) (hsy : ∃ o, s₁.heap.get? sysModules = some o ∧ o.cls = .type "dict")
    (ha : s₁.heap.get? a = some { cls := .type "list", data := .seq vs.toArray }) (hi : IntsAre vs ns) (hl : ns.length ≤ sizeLine) (hr : Room k callerA)
    (F : ∀ base : Heap, K.In base → base.Ns mainGlobals mg → (∃ o, base.get? sysModules = some o) → FnG ⟨P, w, K, mg, base, cl⟩ k fa fd [x] (spF ⟨P, w, K, mg, base, cl⟩ m)) (hbind : ∀ (s : Shared) (u : Value), BindsTo s fd ⟨[u], []⟩ [(x, u)])
    (law : ∃ S', m [.scr (ns.map Tv.int)] [] = .ok (.bl true) S') :
    codeAny (model P w) callerA (.call (.ref fa) ⟨[.ref a], []⟩) (fun r s' => r = .ok (.ret (.bool true)) ∧ OldK s₁.heap s'.heap ∧ s'.os = s₁.os ∧ AllBare s'.gens) s₁ := by
  have rv := vals_ints hi
  have lenV := hi.length
  have dints : ∀ (G : Wd) (ν μ : List Addr) (H : Hp), Dns G ν μ H (ns.map Tv.int) (ns.map V.int) := fun G ν μ H => dns_ints ns
  have core : ∀ H : Hp, FzS K [] H a (ns.map V.int) → HOk P w H s₁.heap → (∀ b, H b ≠ none → b = a) → (H a ≠ none → K.lookup a = none) → Only H →
      codeAny (model P w) callerA (.call (.ref fa) ⟨[.ref a], []⟩) (fun r s' => r = .ok (.ret (.bool true)) ∧ OldK s₁.heap s'.heap ∧ s'.os = s₁.os ∧ AllBare s'.gens) s₁ := by
    intro H hS hok hA hK hO
    have onlyA : ∀ {b : Addr} {o : Obj}, s₁.heap.get? b = some o → o ≠ { cls := .type "list", data := .seq vs.toArray } → H b = none := fun {b o} e d => by
      cases q : H b with
      | none => rfl
      | some u =>
        have z : b = a := hA b (by rw [q]; simp)
        subst z
        rw [ha] at e
        exact absurd (Option.some.inj e).symm d
    have nsK : ∀ {b : Addr} {f : Str → Option Value}, s₁.heap.Ns b f → (hidT s₁.heap H).Ns b f := fun {b f} ⟨o, es, ep, e, d, r⟩ =>
      ⟨o, es, ep, hidT_get e (onlyA e fun z => by subst z; cases d), d, r⟩
    have kB : K.In (hidT s₁.heap H) := fun b o e => hidT_get (KX b o e) (by
      cases q : H b with
      | none => rfl
      | some u =>
        have z : b = a := hA b (by rw [q]; simp)
        subst z
        rw [hK (by rw [q]; simp)] at e
        cases e)
    have syB : ∃ o, (hidT s₁.heap H).get? sysModules = some o := by
      obtain ⟨o, e, c⟩ := hsy
      exact ⟨o, hidT_get e (onlyA e fun z => by
        subst z
        exact absurd (show (Value.type "list") = .type "dict" from c) (by decide))⟩
    have mB : Mod K mg (hidT s₁.heap H) := ⟨kB, nsK hns, ⟨mb, nsK hb, hbb⟩, let ⟨mc, h1, h2⟩ := hlim; ⟨mc, nsK h1, h2⟩⟩
    have e0 : Env0 P w K mg (hidT s₁.heap H) callerA [] s₁ H := ⟨rfl, mB, fun b o e => of_hidT e, Nat.le_of_eq (hidT_size _ _), trivial, fun b hb => absurd (show b ∈ ([] : List Addr) from hb) (by simp), hok, .of_eq hg⟩
    obtain ⟨S', em⟩ := law
    have sp : spF ⟨P, w, K, mg, hidT s₁.heap H, cl⟩ m [.ref a] H (fun v _ => v = .bl true) fun _ _ _ => False := by
      refine ⟨[.scr (ns.map Tv.int)], [], [], [], ⟨rfl, List.nodup_nil, fun _ h => h, fun _ h => absurd h (by simp), fun n o h => absurd h (by simp)⟩, ?_, ?_⟩
      · simp only [Dns, Dn]
        exact ⟨_, _, rfl, ⟨a, _, rfl, hS, dints _ _ _ _⟩, rfl⟩
      · rw [em]
        intro v H' ν' μ' _ d
        have d' : Dn _ ν' μ' H' (.bl true) v := d
        simp only [Dn] at d'
        exact d'
    refine codeAny_mono ((F _ kB (nsK hns) syB).run callerA [] s₁ H ⟨[.ref a], []⟩ [.ref a] [.ref a] _ _ hr rfl e0 (hbind s₁ (.ref a)) (.cons rfl .nil) sp) fun r s' h => ?_
    cases r with
    | error e =>
      obtain ⟨_, _, _, _, _, _, _, _, _, _, _, _, z⟩ := h
      exact z.elim
    | ok fl =>
      cases fl with
      | next => exact False.elim h
      | brk => exact False.elim h
      | cont => exact False.elim h
      | ret u =>
        obtain ⟨v, H', os, bare, un, hok', r', q⟩ := h
        have q' : v = .bl true := q
        subst q'
        obtain rfl : u = Value.bool true := r'
        refine ⟨rfl, OldK.of_keep fun b o e => ?_, os, bare⟩
        cases q : H b with
        | none => exact un.keep b o e q (fun z => absurd (show b ∈ ([] : List Addr) from z) (by simp)) (by simp)
        | some u =>
          rcases hO b with z | ⟨ob, xs, z⟩
          · rw [q] at z; cases z
          · obtain ⟨e1, _⟩ := hok b _ z
            obtain ⟨e2, _⟩ := hok' b _ (un.frzs b ob _ z)
            rw [e] at e1
            cases e1
            exact e2
  cases hk : K.lookup a with
  | some o =>
    have e := KX a o hk
    rw [ha] at e
    cases e
    exact core (fun _ => none) (.inr ⟨_, vs.toArray, _, hk, rfl, rfl, rfl, by rw [List.size_toArray, lenV]; exact hl, by simpa using rv⟩) (fun b u z => nomatch (show (none : Option HO) = some u from z)) (fun b z => absurd rfl z) (fun z => absurd rfl z) fun _ => .inl rfl
  | none =>
    refine core (fun b => if b = a then some (.frz { cls := .type "list", data := .seq vs.toArray } (.lst (ns.map V.int))) else none) (.inl ⟨by simp, _, if_pos rfl⟩) (fun b u z => ?_) (fun b z => ?_) (fun _ => hk) fun b => ?_
    · by_cases hb : b = a
      · have y := (if_pos hb).symm.trans z
        cases y
        subst hb
        exact ⟨ha, by rw [List.length_map]; exact hl, vs, _, rv, ha⟩
      · cases (if_neg hb).symm.trans z
    · by_cases hb : b = a
      · exact hb
      · exact absurd (if_neg hb) z
    · by_cases hb : b = a
      · exact .inr ⟨_, _, if_pos hb⟩
      · exact .inl (if_neg hb)
/-! ### the tables' facts, told by names -/
def EnB (e : En) : Prop := ∀ (kV doc pm : Value) (an : Option Addr) (cdv ct : Value) (us : List Value), us.length = e.ps.length →
  bindArgs (PySem.W.fnOf e.x e.x (L2.defArgs e.st) (L2.defBody e.st) (L2.defScope e.st) .none kV doc pm an cdv ct) ⟨us, []⟩ = pure (e.ps.zip us)
def AllB : List En → Prop
  | [] => True
  | e :: r => EnB e ∧ AllB r
theorem allB_of : ∀ {es : List En} {e : En}, AllB es → e ∈ es → EnB e
  | e' :: r, e, h, he => by
    rcases List.mem_cons.mp he with q | q
    · rw [q]; exact h.1
    · exact allB_of h.2 q
/-- the constants: whole numbers of the module -/
def glF (p : Str × Tv) : List He.Fa := match p.2 with
  | .int i => [.int p.1 i]
  | .str z => [.str p.1 z]
  | _ => []
def glOk (p : Str × Tv) : Bool := match p.2 with
  | .int _ => true
  | .str _ => true
  | _ => false
def kdOk (p : Str × Kd) : Bool := match p.2 with
  | .int => decide (p.1 = ("int" : Str))
  | .bool => decide (p.1 = ("bool" : Str))
  | .tuple => decide (p.1 = ("tuple" : Str))
  | .str => decide (p.1 = ("str" : Str))
  | .list => decide (p.1 = ("list" : Str))
  | .cls _ => false
def faOf (T : Tb) (es : List En) : List He.Fa := es.map (fun e => .glo e.x) ++ T.bls.map He.Fa.free ++ T.kds.map (fun p => .free p.1) ++ T.gls.flatMap glF ++ [.free ""]
def cl0 : Nat → Str × List Str := fun _ => ("", [])
theorem facts_of {P : Program} {w : World} {K : PySem.W.Frag} {h : Heap} {mg : Str → Option Value} {T : Tb} {es rs : List En} (base : Heap) (X : K.In h) (Gn : h.Ns mainGlobals mg) (c : He.SaysD (faOf T es) (es.map En.dd) K)
    (sub : ∀ e ∈ rs, e ∈ es) (ab : AllB rs) (ok : okAll T rs = true) (og : T.gls.all glOk = true) (okd : T.kds.all kdOk = true) (hs : ∃ o, base.get? sysModules = some o) :
    TbOk ⟨P, w, K, mg, base, cl0⟩ rs.length (tab rs) { T with fns := fnsOf rs } := by
  have fact : ∀ f ∈ faOf T es, f.ok K = true := fun f hf => by
    have c1 := (He.ba (show (((faOf T es).all fun f => f.ok K) && (es.map En.dd).all fun d => d.ok K) = true from congrArg (fun z : He.AlD => z.1) c)).1
    exact List.all_eq_true.mp c1 f hf
  have fr : ∀ x, He.Fa.free x ∈ faOf T es → mg x = none := fun x hx => He.free_ok X Gn (fact _ hx)
  have nm : mg "" = none := fr _ (by simp [faOf])
  refine tab_ok (G := ⟨P, w, K, mg, base, cl0⟩) hs (fun x t hx => ?_) (fun x hx => fr x (by simp [faOf, hx])) (fun x k hx => ?_) rs ok fun e he => ?_
  · have z := List.all_eq_true.mp og _ hx
    have hm : ∀ f ∈ glF (x, t), f ∈ faOf T es := fun f hf => by
      simp only [faOf, List.mem_append, List.mem_flatMap]
      exact .inl (.inr ⟨_, hx, hf⟩)
    cases t with
    | int i =>
      obtain ⟨k, q⟩ := He.int_ok X Gn (fact _ (hm (.int x i) (by simp [glF])))
      exact ⟨.int i, _, q, ⟨k, rfl⟩, fun _ _ _ => dn_int⟩
    | str y =>
      obtain ⟨k, q⟩ := He.str_ok X Gn (fact _ (hm (.str x y) (by simp [glF])))
      exact ⟨.str y, _, q, ⟨k, rfl⟩, fun _ _ _ => dn_str⟩
    | _ => cases z
  · have z := List.all_eq_true.mp okd _ hx
    have hn : mg x = none := fr x (by simp only [faOf, List.mem_append, List.mem_map]; exact .inl (.inl (.inr ⟨_, hx, rfl⟩)))
    have no : ∀ (T : String) (c : Nat) (C : Addr), mg (cl0 c).1 = some (.ref C) → ClsF ⟨P, w, K, mg, base, cl0⟩ C ∧ PySem.W.kitOne K (.ref C) (.type T) = some false := fun T c C hc => by
      have hc' : mg "" = some (.ref C) := hc
      rw [nm] at hc'
      cases hc'
    cases k with
    | cls c => cases z
    | int =>
      have e : x = "int" := of_decide_eq_true z
      subst e
      exact ⟨.ty "int", .type "int", ⟨rfl, no _⟩, rfl, .inr ⟨hn, by decide +kernel⟩⟩
    | bool =>
      have e : x = "bool" := of_decide_eq_true z
      subst e
      exact ⟨.ty "bool", .type "bool", ⟨rfl, no _⟩, rfl, .inr ⟨hn, by decide +kernel⟩⟩
    | tuple =>
      have e : x = "tuple" := of_decide_eq_true z
      subst e
      exact ⟨.ty "tuple", .type "tuple", ⟨rfl, no _⟩, rfl, .inr ⟨hn, by decide +kernel⟩⟩
    | str =>
      have e : x = "str" := of_decide_eq_true z
      subst e
      exact ⟨.ty "str", .type "str", ⟨rfl, no _⟩, rfl, .inr ⟨hn, by decide +kernel⟩⟩
    | list =>
      have e : x = "list" := of_decide_eq_true z
      subst e
      exact ⟨.ty "list", .type "list", ⟨rfl, no _⟩, rfl, .inr ⟨hn, by decide +kernel⟩⟩
  · obtain ⟨i, hi⟩ := List.mem_iff_getElem?.mp (sub e he)
    obtain ⟨fd, F⟩ := c.def_ i (d := e.dd) (by rw [List.getElem?_map, hi]; rfl)
    exact ⟨_, fd, F, He.glo_ok X Gn (fact _ (by simp only [faOf, List.mem_append, List.mem_map]; exact .inl (.inl (.inl (.inl ⟨e, sub e he, rfl⟩))))), F.bindsN (allB_of ab he)⟩
/-! ### a law -/
theorem walkM {l : PySem.W.OpenLaw} {n : Nat} {q : Program} {loose : List Str} {XP : (Str → Option Value) → Heap → Prop} {d : DefRec} {T : Tb} {e : En} {r : List En} {x : Str} {N0 : Nat}
    (hn : l.most = some n) (hn2 : n ≤ sizeLine) (hdf : d.params.defaults = []) (hr : Room (r.length + 1) callerA) (hx : e.ps = [x]) (hd : d.name = e.x)
    (ab : AllB (e :: r)) (ok : okAll T (e :: r) = true) (og : T.gls.all glOk = true) (okd : T.kds.all kdOk = true)
    (law : ∀ ns : List Int, ns.length ≤ n → (∀ k ∈ ns, Builtin.Int.intBits k ≤ 1048576) → ∃ S', runD (tab r) e.d [.scr (ns.map Tv.int)] [] = .ok (.bl true) S') :
    PySem.W.WalkO q loose XP (hookM N0 (faOf T (e :: r)) ((e :: r).map En.dd)).says l.row.toRowW d [] (fun f vs => PySem.call f vs) := by
  refine Att.attach_callB hn hdf fun w s₀ s₁ mg mb fa o pm cd doc a vs ns G Y ho hd' hcd hmg hobj hints hlen hbits hg => ?_
  obtain ⟨K, KX, c, sy⟩ := Y
  obtain ⟨fd, F⟩ := c.def_ 0 (d := e.dd) rfl
  have c1 := (He.ba (show (((faOf T (e :: r)).all fun f => f.ok K) && ((e :: r).map En.dd).all fun d => d.ok K) = true from congrArg (fun z : He.AlD => z.1) c)).1
  have glo : mg e.x = some (.ref (He.ga K e.x)) := He.glo_ok KX G.T.g (List.all_eq_true.mp c1 (.glo e.x) (by simp [faOf]))
  rw [hd, glo] at hmg
  cases hmg
  refine law_callM (cl := cl0) (m := runD (tab r) e.d) (x := x) (k := r.length + 1) (fd := fd) KX G.T.g G.T.b G.T.builtins G.T.nolimit hg sy hobj hints (Nat.le_trans hlen hn2) hr (fun base kb nb sb => ?_) (fun s u => ?_) (law ns hlen hbits)
  · have h3 : okAll T r = true := (and2 ok).2
    have hen : okEn { T with fns := fnsOf r } e = true := (and2 (and2 ok).1).1
    have tb : TbOk ⟨l.prog, w, K, mg, base, cl0⟩ r.length (tab r) { T with fns := fnsOf r } := facts_of (P := l.prog) (w := w) base KX G.T.g c (fun e he => List.mem_cons_of_mem _ he) ab.2 h3 og okd sb
    have z := def_ok tb sb hen F
    rw [hx] at z
    exact z
  · have z := F.bindsA (ps := e.ps) (ab.1) s [u] (by rw [hx]; rfl)
    rw [hx] at z
    exact z
end Mp
namespace Mp
/-! ### plain evaluation -/
@[irreducible] def Rs.wp {α : Type} (r : Rs α) (Q : α → Sto → Prop) : Prop := match r with
  | .ok a S => Q a S
  | _ => False
@[simp] theorem wp_ok {α : Type} {a : α} {S : Sto} {Q : α → Sto → Prop} : (Rs.ok a S).wp Q = Q a S := by unfold Rs.wp; rfl
theorem wp_ex {α : Type} {c : Nat} {fs : List Tv} {S : Sto} {Q : α → Sto → Prop} : (Rs.ex c fs S).wp Q = False := by unfold Rs.wp; rfl
theorem wp_bad {α : Type} {Q : α → Sto → Prop} : (Rs.bad : Rs α).wp Q = False := by unfold Rs.wp; rfl
theorem wp_bnd {α β : Type} {m : M α} {f : α → M β} {S : Sto} {Q : β → Sto → Prop} : (bnd m f S).wp Q = (m S).wp fun a S' => (f a S').wp Q := by
  unfold bnd
  cases m S <;> simp only [Rs.bnd, wp_ok, wp_ex, wp_bad]
theorem wp_rbnd {α β : Type} {r : Rs α} {f : α → M β} {Q : β → Sto → Prop} : (r.bnd f).wp Q = r.wp fun a S' => (f a S').wp Q := by
  cases r <;> simp only [Rs.bnd, wp_ok, wp_ex, wp_bad]
@[simp] theorem wp_ret {α : Type} {a : α} {S : Sto} {Q : α → Sto → Prop} : (ret a S).wp Q = Q a S := wp_ok
theorem wp_get {α : Type} {r : Rs α} {Q : α → Sto → Prop} (h : r.wp Q) : ∃ a S, r = .ok a S ∧ Q a S := by
  cases r with
  | ok a S => rw [wp_ok] at h; exact ⟨a, S, rfl, h⟩
  | ex c fs S => rw [wp_ex] at h; exact h.elim
  | bad => rw [wp_bad] at h; exact h.elim
theorem wp_mono {α : Type} {r : Rs α} {Q Q' : α → Sto → Prop} (h : r.wp Q) (i : ∀ a S, Q a S → Q' a S) : r.wp Q' := by
  obtain ⟨a, S, rfl, q⟩ := wp_get h
  rw [wp_ok]
  exact i a S q
theorem wp_opt {α : Type} {o : Option α} {a : α} {S : Sto} {Q : α → Sto → Prop} (h : o = some a) (q : Q a S) : (opt o S).wp Q := by
  rw [h]; exact (wp_ok (Q := Q)).mpr q
theorem wp_calm {α : Type} {m : M α} {S : Sto} {Q : α → Sto → Prop} : (calmM m S).wp Q = (m S).wp Q := by
  unfold calmM
  cases m S <;> simp only [wp_ok, wp_ex, wp_bad]
/-- behind a statement: on, or back with a value -/
structure Po where
  nx : Env → Sto → Prop
  rt : Tv → Sto → Prop
  bk : Env → Sto → Prop := fun _ _ => False
  ct : Env → Sto → Prop := fun _ _ => False
@[irreducible] def Sr.wp (r : Sr) (D : Po) : Prop := match r with
  | .nx e S => D.nx e S
  | .rt t S => D.rt t S
  | .bk e S => D.bk e S
  | .ct e S => D.ct e S
  | _ => False
section
variable {e : Env} {S : Sto} {D : Po}
theorem sw_nx : (Sr.nx e S).wp D = D.nx e S := by unfold Sr.wp; rfl
theorem sw_rt {t : Tv} : (Sr.rt t S).wp D = D.rt t S := by unfold Sr.wp; rfl
theorem sw_bk : (Sr.bk e S).wp D = D.bk e S := by unfold Sr.wp; rfl
theorem sw_ct : (Sr.ct e S).wp D = D.ct e S := by unfold Sr.wp; rfl
theorem sw_ex {c : Nat} {fs : List Tv} : (Sr.ex c fs e S).wp D = False := by unfold Sr.wp; rfl
theorem sw_bad : Sr.bad.wp D = False := by unfold Sr.wp; rfl
end
theorem sr_of {r : Rs Tv} {env : Env} {f : Tv → Sto → Sr} {D : Po} : (srOf r env f).wp D = r.wp fun t S => (f t S).wp D := by
  cases r <;> simp only [srOf, wp_ok, wp_ex, wp_bad, sw_ex, sw_bad]
@[simp] theorem exs_nil {cf : Nat → List Tv → M Tv} {m : Nat} {env : Env} {S : Sto} {D : Po} : (exs cf m [] env S).wp D = D.nx env S := by simp only [exs, sw_nx]
theorem exs_cons {cf : Nat → List Tv → M Tv} {m : Nat} {s : Sx} {r : List Sx} {env : Env} {S : Sto} {D : Po} : (exs cf m (s :: r) env S).wp D = (ex cf m s env S).wp { D with nx := fun e S => (exs cf m r e S).wp D } := by
  simp only [exs]
  cases ex cf m s env S <;> simp only [wp_ok, wp_ex, wp_bad, sw_nx, sw_rt, sw_bk, sw_ct, sw_ex, sw_bad]
@[simp] theorem ex_asg {cf : Nat → List Tv → M Tv} {m : Nat} {tg : Tg} {e : Ex} {env : Env} {S : Sto} {D : Po} : (ex cf m (.asg tg e) env S).wp D = ((ev cf e).v env S).wp fun t S => match setTg tg t env with
    | some e => D.nx e S
    | none => False := by
  simp only [ex, sr_of]
  congr 1
  funext t S
  cases setTg tg t env <;> simp only [wp_ok, wp_ex, wp_bad, sw_nx, sw_rt, sw_bk, sw_ct, sw_ex, sw_bad]
@[simp] theorem ex_drop {cf : Nat → List Tv → M Tv} {m : Nat} {e : Ex} {env : Env} {S : Sto} {D : Po} : (ex cf m (.drop e) env S).wp D = ((ev cf e).v env S).wp fun _ S => D.nx env S := by
  simp only [ex, sr_of, sw_nx, sw_rt]
@[simp] theorem ex_ret {cf : Nat → List Tv → M Tv} {m : Nat} {e : Ex} {env : Env} {S : Sto} {D : Po} : (ex cf m (.ret e) env S).wp D = ((ev cf e).v env S).wp D.rt := by
  simp only [ex, sr_of, sw_nx, sw_rt]
@[simp] theorem ex_if {cf : Nat → List Tv → M Tv} {m : Nat} {c : Ex} {a b : List Sx} {env : Env} {S : Sto} {D : Po} : (ex cf m (.ifS c a b) env S).wp D = ((ev cf c).t env S).wp fun k S => if k = true then (exs cf m a env S).wp D else (exs cf m b env S).wp D := by
  simp only [ex]
  cases (ev cf c).t env S with
  | ok k S' => rw [wp_ok]; cases k <;> rfl
  | _ => simp only [wp_ok, wp_ex, wp_bad, sw_nx, sw_rt, sw_bk, sw_ct, sw_ex, sw_bad]
@[simp] theorem ex_set {cf : Nat → List Tv → M Tv} {m : Nat} {a i e : Ex} {env : Env} {S : Sto} {D : Po} : (ex cf m (.setIx a i e) env S).wp D = ((ev cf e).v env S).wp fun t S => ((ev cf a).v env S).wp fun x S => ((ev cf i).v env S).wp fun j S => match setAt x j t S with
    | some S' => D.nx env S'
    | none => False := by
  simp only [ex, sr_of]
  congr 1; funext t S
  congr 1; funext x S
  congr 1; funext j S
  cases setAt x j t S <;> simp only [wp_ok, wp_ex, wp_bad, sw_nx, sw_rt, sw_bk, sw_ct, sw_ex, sw_bad]
@[simp] theorem ex_pass {cf : Nat → List Tv → M Tv} {m : Nat} {env : Env} {S : Sto} {D : Po} : (ex cf m .pass env S).wp D = D.nx env S := sw_nx
@[simp] theorem ex_brk {cf : Nat → List Tv → M Tv} {m : Nat} {env : Env} {S : Sto} {D : Po} : (ex cf m .brk env S).wp D = D.bk env S := sw_bk
@[simp] theorem ex_cont {cf : Nat → List Tv → M Tv} {m : Nat} {env : Env} {S : Sto} {D : Po} : (ex cf m .cont env S).wp D = D.ct env S := sw_ct
/-- a for, by an invariant: at the turn i -/
theorem ex_for {cf : Nat → List Tv → M Tv} {m : Nat} {tg : Tg} {it : Ix} {b : List Sx} {env : Env} {S : Sto} {D : Po} : (ex cf m (.forS tg it b) env S).wp D = (evI cf it env S).wp fun q S => (forL q.2 tg (exs cf m b) q.1 env S).wp D := by
  simp only [ex]
  cases evI cf it env S <;> simp only [wp_ok, wp_ex, wp_bad, sw_nx, sw_rt, sw_bk, sw_ct, sw_ex, sw_bad]
theorem for_inv {w : List (Nat × List Tv)} {tg : Tg} {body : Env → Sto → Sr} {D : Po} (P : List Tv → Env → Sto → Prop) (hw : ∀ ts e S, P ts e S → stays w S = true)
    (step : ∀ t r env S, P (t :: r) env S → ∃ e, setTg tg t env = some e ∧ (body e S).wp { nx := P r, ct := P r, bk := D.nx, rt := D.rt }) (fin : ∀ env S, P [] env S → D.nx env S) :
    ∀ (ts : List Tv) (env : Env) (S : Sto), P ts env S → (forL w tg body ts env S).wp D
  | [], env, S, h => by
    simp only [forL]
    rw [if_pos (hw _ _ _ h)]
    rw [sw_nx]
    exact fin env S h
  | t :: r, env, S, h => by
    simp only [forL]
    rw [if_pos (hw _ _ _ h)]
    obtain ⟨e, he, hb⟩ := step t r env S h
    rw [he]
    simp only
    cases eb : body e S with
    | nx e' S' => rw [eb, sw_nx] at hb; exact for_inv P hw step fin r e' S' hb
    | ct e' S' => rw [eb, sw_ct] at hb; exact for_inv P hw step fin r e' S' hb
    | bk e' S' => rw [eb, sw_bk] at hb; rw [sw_nx]; exact hb
    | rt t S' => rw [eb, sw_rt] at hb; rw [sw_rt]; exact hb
    | ex c fs e' S' => rw [eb, sw_ex] at hb; exact hb.elim
    | bad => rw [eb, sw_bad] at hb; exact hb.elim
theorem ex_while {cf : Nat → List Tv → M Tv} {m : Nat} {c : Ex} {b : List Sx} {env : Env} {S : Sto} {D : Po} : (ex cf m (.whileS c b) env S).wp D = (whileL (ev cf c).t (exs cf m b) m env S).wp D := rfl
/-- a while, by an invariant with a measure below the fuel -/
theorem while_inv {c : Env → M Bool} {body : Env → Sto → Sr} {D : Po} (P : Nat → Env → Sto → Prop)
    (step : ∀ k env S, P k env S → (c env S).wp fun b S => if b = true then (body env S).wp { nx := fun e S => ∃ k', k' < k ∧ P k' e S, ct := fun e S => ∃ k', k' < k ∧ P k' e S, bk := D.nx, rt := D.rt } else D.nx env S) :
    ∀ (m k : Nat) (env : Env) (S : Sto), k < m → P k env S → (whileL c body m env S).wp D
  | 0, k, env, S, h, _ => by omega
  | m + 1, k, env, S, h, hp => by
    have z := step k env S hp
    simp only [whileL]
    cases ec : c env S with
    | ok b S1 =>
      rw [ec, wp_ok] at z
      cases b with
      | false => simp only [sw_nx]; exact z
      | true =>
        have z : (body env S1).wp { nx := fun e S => ∃ k', k' < k ∧ P k' e S, ct := fun e S => ∃ k', k' < k ∧ P k' e S, bk := D.nx, rt := D.rt } := z
        simp only
        cases eb : body env S1 with
        | nx e' S' => rw [eb, sw_nx] at z; obtain ⟨k', hk, hp'⟩ := z; exact while_inv P step m k' e' S' (by omega) hp'
        | ct e' S' => rw [eb, sw_ct] at z; obtain ⟨k', hk, hp'⟩ := z; exact while_inv P step m k' e' S' (by omega) hp'
        | bk e' S' => rw [eb, sw_bk] at z; simp only [sw_nx]; exact z
        | rt t S' => rw [eb, sw_rt] at z; simp only [sw_rt]; exact z
        | ex c fs e' S' => rw [eb, sw_ex] at z; exact z.elim
        | bad => rw [eb, sw_bad] at z; exact z.elim
    | ex c fs S => rw [ec, wp_ex] at z; exact z.elim
    | bad => rw [ec, wp_bad] at z; exact z.elim
/-- a comprehension, by an invariant -/
theorem comp_inv {w : List (Nat × List Tv)} {tg : Tg} {env : Env} {c : Env → M Bool} {elt : Env → M Tv} (P : List Tv → List Tv → Sto → Prop) (hw : ∀ ts a S, P ts a S → stays w S = true)
    (step : ∀ t r a S, P (t :: r) a S → ∃ e, setTg tg t env = some e ∧ (c e S).wp fun k S => if k = true then (elt e S).wp fun y S => P r (a ++ [y]) S else P r a S) :
    ∀ (ts a : List Tv) (S : Sto), P ts a S → (compL w tg env c elt ts S).wp fun ys S => P [] (a ++ ys) S
  | [], a, S, h => by
    simp only [compL]
    rw [if_pos (hw _ _ _ h)]
    rw [wp_ok]
    show P [] (a ++ []) S
    rw [List.append_nil]
    exact h
  | t :: r, a, S, h => by
    simp only [compL]
    rw [if_pos (hw _ _ _ h)]
    obtain ⟨e, he, hb⟩ := step t r a S h
    rw [he]
    simp only [wp_bnd, wp_calm]
    refine wp_mono hb fun k S1 h1 => ?_
    cases k with
    | false =>
      simp only [Bool.false_eq_true, if_false] at h1 ⊢
      exact comp_inv P hw step r a S1 h1
    | true =>
      simp only [if_true, wp_bnd, wp_calm] at h1 ⊢
      refine wp_mono h1 fun y S2 h2 => ?_
      refine wp_mono (comp_inv P hw step r (a ++ [y]) S2 h2) fun ys S3 h3 => ?_
      rw [wp_ret]
      show P [] (a ++ (y :: ys)) S3
      have e : a ++ [y] ++ ys = a ++ (y :: ys) := by simp
      rw [← e]
      exact h3
/-- a comprehension that writes nothing: by a function -/
theorem comp_map {w : List (Nat × List Tv)} {tg : Tg} {env : Env} {c : Env → M Bool} {elt : Env → M Tv} {S : Sto} (p : Tv → Bool) (g : Tv → Tv) (hw : stays w S = true) :
    ∀ ts : List Tv, (∀ t ∈ ts, ∃ e, setTg tg t env = some e ∧ c e S = .ok (p t) S ∧ (p t = true → elt e S = .ok (g t) S)) → compL w tg env c elt ts S = .ok ((ts.filter p).map g) S
  | [], _ => by simp only [compL]; rw [if_pos hw]; rfl
  | t :: r, h => by
    obtain ⟨e, he, hc, hg⟩ := h t List.mem_cons_self
    have ih := comp_map p g hw r fun t ht => h t (List.mem_cons_of_mem _ ht)
    simp only [compL]
    rw [if_pos hw, he]
    simp only [bnd, calmM, hc, Rs.bnd]
    cases hp : p t with
    | false =>
      simp only [hp, Bool.false_eq_true, if_false]
      rw [ih, List.filter_cons]
      simp [hp]
    | true =>
      simp only [hp, if_true, bnd, calmM, hg hp, Rs.bnd, ih]
      rw [List.filter_cons]
      simp [hp, ret]
theorem run_wp {cf : Nat → List Tv → M Tv} {d : Df} {as : List Tv} {S : Sto} {Q : Tv → Sto → Prop} (hl : as.length = d.k)
    (h : (exs cf Fu d.body (as.map some ++ List.replicate (d.n - d.k) none) S).wp { nx := fun _ S' => Q .non S', rt := fun t S' => if S'.take S.length = S ∧ t.noCell = true then Q t S else Q t S' }) : (runD cf d as S).wp Q := by
  unfold runD
  rw [if_pos hl]
  cases e : exs cf Fu d.body (as.map some ++ List.replicate (d.n - d.k) none) S with
  | nx e' S' => rw [e, sw_nx] at h; simp only [wp_ok]; exact h
  | rt t S' =>
    rw [e, sw_rt] at h
    have h : if S'.take S.length = S ∧ t.noCell = true then Q t S else Q t S' := h
    simp only
    split at h
    · rename_i hc; rw [if_pos hc, wp_ok]; exact h
    · rename_i hc; rw [if_neg hc, wp_ok]; exact h
  | bk e' S' => rw [e, sw_bk] at h; exact h.elim
  | ct e' S' => rw [e, sw_ct] at h; exact h.elim
  | ex c fs e' S' => rw [e, sw_ex] at h; exact h.elim
  | bad => rw [e, sw_bad] at h; exact h.elim
theorem sr_mono {r : Sr} {D D' : Po} (h : r.wp D) (a : ∀ e S, D.nx e S → D'.nx e S) (b : ∀ t S, D.rt t S → D'.rt t S) (c : ∀ e S, D.bk e S → D'.bk e S) (d : ∀ e S, D.ct e S → D'.ct e S) : r.wp D' := by
  cases r with
  | nx e S => rw [sw_nx] at h ⊢; exact a e S h
  | rt t S => rw [sw_rt] at h ⊢; exact b t S h
  | bk e S => rw [sw_bk] at h ⊢; exact c e S h
  | ct e S => rw [sw_ct] at h ⊢; exact d e S h
  | ex c fs e S => rw [sw_ex] at h; exact h.elim
  | bad => rw [sw_bad] at h; exact h.elim
/-! ### expressions, by their parts -/
section
variable {cf : Nat → List Tv → M Tv} {env : Env} {S : Sto} {Q : Tv → Sto → Prop} {QB : Bool → Sto → Prop} {QL : List Tv → Sto → Prop} {a b c e : Ex} {es : List Ex}
@[simp] theorem w_var {i : Nat} : ((ev cf (.var i)).v env S).wp Q = match env[i]? with
    | some (some t) => Q t S
    | _ => False := by
  show (varM i env S).wp Q = _
  unfold varM
  cases h : env[i]? with
  | none => simp only [wp_bad]
  | some o => cases o <;> simp only [wp_ok, wp_bad]
@[simp] theorem w_int {i : Int} : ((ev cf (.int i)).v env S).wp Q = Q (.int i) S := wp_ok
@[simp] theorem w_str {i : PySem.Str} : ((ev cf (.str i)).v env S).wp Q = Q (.str i) S := wp_ok
@[simp] theorem w_bl {i : Bool} : ((ev cf (.bl i)).v env S).wp Q = Q (.bl i) S := wp_ok
@[simp] theorem w_non : ((ev cf .non).v env S).wp Q = Q .non S := wp_ok
@[simp] theorem w_gl {x : PySem.Str} {t : Tv} : ((ev cf (.gl x t)).v env S).wp Q = Q t S := wp_ok
@[simp] theorem w_bin {o : Bo} : ((ev cf (.bin o a b)).v env S).wp Q = ((ev cf a).v env S).wp fun x S => ((ev cf b).v env S).wp fun y S => (opt (binV o S x y) S).wp Q := by
  show (bnd _ _ S).wp Q = _
  simp only [wp_bnd]
@[simp] theorem w_neg : ((ev cf (.neg a)).v env S).wp Q = ((ev cf a).v env S).wp fun x S => match x with
    | .int i => Q (.int (-i)) S
    | _ => False := by
  show (bnd _ _ S).wp Q = _
  simp only [wp_bnd]
  congr 1; funext x S
  cases x <;> first | rfl | simp only [wp_ok, wp_ex, wp_bad, sw_nx, sw_rt, sw_bk, sw_ct, sw_ex, sw_bad]
@[simp] theorem t_cmp {o : Co} : ((ev cf (.cmp o a b)).t env S).wp QB = ((ev cf a).v env S).wp fun x S => ((ev cf b).v env S).wp fun y S => (opt (cmpV o S x y) S).wp QB := by
  show (bnd _ _ S).wp QB = _
  simp only [wp_bnd]
@[simp] theorem w_cmp {o : Co} : ((ev cf (.cmp o a b)).v env S).wp Q = ((ev cf a).v env S).wp fun x S => ((ev cf b).v env S).wp fun y S => (opt (cmpV o S x y) S).wp fun k S => Q (.bl k) S := by
  show (bnd (bnd _ _) _ S).wp Q = _
  simp only [wp_bnd, wp_ret]
@[simp] theorem t_chain {o p : Co} : ((ev cf (.chain o p a b c)).t env S).wp QB = ((ev cf a).v env S).wp fun x S => ((ev cf b).v env S).wp fun y S => (opt (cmpV o S x y) S).wp fun k S => if k = true then ((ev cf c).v env S).wp fun z S => (opt (cmpV p S y z) S).wp QB else QB false S := by
  show (bnd _ _ S).wp QB = _
  simp only [wp_bnd]
  congr 1; funext x S
  congr 1; funext y S
  congr 1; funext k S
  cases k
  · simp only [Bool.false_eq_true, if_false, wp_ret]
  · simp only [if_true, wp_bnd]
@[simp] theorem t_isC {ng : Bool} {cc : Option Bool} : ((ev cf (.isC ng a cc)).t env S).wp QB = ((ev cf a).v env S).wp fun x S => (opt ((isCV cc x).map fun k => if ng then !k else k) S).wp QB := by
  show (bnd _ _ S).wp QB = _
  simp only [wp_bnd]
@[simp] theorem w_isi {k : Kd} : ((ev cf (.isi a k)).v env S).wp Q = ((ev cf a).v env S).wp fun x S => (opt (isiV k S x) S).wp fun k S => Q (.bl k) S := by
  show (bnd (bnd _ _) _ S).wp Q = _
  simp only [wp_bnd, wp_ret]
@[simp] theorem t_isi {k : Kd} : ((ev cf (.isi a k)).t env S).wp QB = ((ev cf a).v env S).wp fun x S => (opt (isiV k S x) S).wp QB := by
  show (bnd _ _ S).wp QB = _
  simp only [wp_bnd]
@[simp] theorem t_bop1 {an : Bool} : ((ev cf (.bop an [])).t env S).wp QB = QB an S := wp_ok
@[simp] theorem t_bop {an : Bool} : ((ev cf (.bop an (e :: es))).t env S).wp QB = ((ev cf e).t env S).wp fun k S => if k = an then ((ev cf (.bop an es)).t env S).wp QB else QB k S := by
  show (bnd _ _ S).wp QB = _
  simp only [wp_bnd]
  congr 1; funext k S
  split <;> first | rfl | simp only [wp_ok, wp_ex, wp_bad, sw_nx, sw_rt, sw_bk, sw_ct, sw_ex, sw_bad]
@[simp] theorem w_bop1 {an : Bool} : ((ev cf (.bop an [e])).v env S).wp Q = ((ev cf e).v env S).wp Q := rfl
@[simp] theorem w_bop {an : Bool} {e2 : Ex} : ((ev cf (.bop an (e :: e2 :: es))).v env S).wp Q = ((ev cf e).v env S).wp fun x S => (truthM x S).wp fun k S => if k = an then ((ev cf (.bop an (e2 :: es))).v env S).wp Q else Q x S := by
  show (bnd _ _ S).wp Q = _
  simp only [wp_bnd]
  congr 1; funext x S
  congr 1; funext k S
  split <;> first | rfl | simp only [wp_ok, wp_ex, wp_bad, sw_nx, sw_rt, sw_bk, sw_ct, sw_ex, sw_bad]
@[simp] theorem t_nt : ((ev cf (.nt a)).t env S).wp QB = ((ev cf a).t env S).wp fun k S => QB (!k) S := by
  show (bnd _ _ S).wp QB = _
  simp only [wp_bnd, wp_ret]
@[simp] theorem w_nt : ((ev cf (.nt a)).v env S).wp Q = ((ev cf a).v env S).wp fun x S => (truthM x S).wp fun k S => Q (.bl (!k)) S := by
  show (bnd _ _ S).wp Q = _
  simp only [wp_bnd, wp_ret]
@[simp] theorem w_ite : ((ev cf (.ite c a b)).v env S).wp Q = ((ev cf c).t env S).wp fun k S => if k = true then ((ev cf a).v env S).wp Q else ((ev cf b).v env S).wp Q := by
  show (bnd _ _ S).wp Q = _
  simp only [wp_bnd]
  congr 1; funext k S
  cases k <;> first | rfl | simp only [wp_ok, wp_ex, wp_bad, sw_nx, sw_rt, sw_bk, sw_ct, sw_ex, sw_bad]
@[simp] theorem w_nil : (evs cf [] env S).wp QL = QL [] S := wp_ok
@[simp] theorem w_cons : (evs cf (e :: es) env S).wp QL = ((ev cf e).v env S).wp fun x S => (evs cf es env S).wp fun xs S => QL (x :: xs) S := by
  show (bnd _ _ S).wp QL = _
  simp only [wp_bnd, wp_ret]
@[simp] theorem w_tup : ((ev cf (.tup es)).v env S).wp Q = (evs cf es env S).wp fun xs S => if xs.length ≤ lim then Q (.tup xs) S else False := by
  show (bnd _ _ S).wp Q = _
  simp only [wp_bnd]
  congr 1; funext xs S
  split <;> first | rfl | simp only [wp_ok, wp_ex, wp_bad, sw_nx, sw_rt, sw_bk, sw_ct, sw_ex, sw_bad]
@[simp] theorem w_fz {l : Lx} : ((ev cf (.fz l)).v env S).wp Q = (evL cf l env S).wp fun xs S => Q (.lst xs) S := by
  show (bnd _ _ S).wp Q = _
  simp only [wp_bnd, wp_ret]
@[simp] theorem w_mu {l : Lx} : ((ev cf (.mu l)).v env S).wp Q = (evL cf l env S).wp fun xs S => Q (.cell S.length) (S ++ [.lst xs]) := by
  show (bnd _ _ S).wp Q = _
  simp only [wp_bnd, alloc, wp_ok]
@[simp] theorem w_disp : (evL cf (.disp es) env S).wp QL = (evs cf es env S).wp fun xs S => if xs.length ≤ lim then QL xs S else False := by
  show (bnd _ _ S).wp QL = _
  simp only [wp_bnd]
  congr 1; funext xs S
  split <;> first | rfl | simp only [wp_ok, wp_ex, wp_bad, sw_nx, sw_rt, sw_bk, sw_ct, sw_ex, sw_bad]
@[simp] theorem w_comp {own : List Nat} {tg : Tg} {it : Ix} : (evL cf (.comp own e tg it c) env S).wp QL = (evI cf it env S).wp fun q S => if q.1.length ≤ lim then (compL q.2 tg (wipeE env own) (ev cf c).t (ev cf e).v q.1 S).wp QL else False := by
  show (bnd _ _ S).wp QL = _
  simp only [wp_bnd]
  congr 1; funext q S
  split <;> first | rfl | simp only [wp_ok, wp_ex, wp_bad, sw_nx, sw_rt, sw_bk, sw_ct, sw_ex, sw_bad]
@[simp] theorem w_ofSeq : (evL cf (.ofSeq a) env S).wp QL = ((ev cf a).v env S).wp fun x S => (opt (seqOf S x) S).wp QL := by
  show (bnd _ _ S).wp QL = _
  simp only [wp_bnd]
@[simp] theorem w_call {f : Nat} : ((ev cf (.call f es)).v env S).wp Q = (evs cf es env S).wp fun xs S => (cf f xs S).wp Q := by
  show (bnd _ _ S).wp Q = _
  simp only [wp_bnd]
@[simp] theorem w_prim {p : Pr} : ((ev cf (.prim p es)).v env S).wp Q = (evs cf es env S).wp fun xs S => (opt (primV p S xs) S).wp Q := by
  show (bnd _ _ S).wp Q = _
  simp only [wp_bnd]
@[simp] theorem w_ix : ((ev cf (.ix a b)).v env S).wp Q = ((ev cf a).v env S).wp fun x S => ((ev cf b).v env S).wp fun j S => (opt (ixV S x j) S).wp Q := by
  show (bnd _ _ S).wp Q = _
  simp only [wp_bnd]
@[simp] theorem w_popAt : ((ev cf (.popAt a b)).v env S).wp Q = ((ev cf a).v env S).wp fun x S => (needL x S).wp fun _ S => ((ev cf b).v env S).wp fun j S => (popAtL x j S).wp Q := by
  show (bnd _ _ S).wp Q = _
  simp only [wp_bnd]
@[simp] theorem w_app : ((ev cf (.app a b)).v env S).wp Q = ((ev cf a).v env S).wp fun x S => (needL x S).wp fun _ S => ((ev cf b).v env S).wp fun y S => (appL x y S).wp Q := by
  show (bnd _ _ S).wp Q = _
  simp only [wp_bnd]
@[simp] theorem i_seq {QI : List Tv × List (Nat × List Tv) → Sto → Prop} : (evI cf (.seq a) env S).wp QI = ((ev cf a).v env S).wp fun x S => (opt (srcOf S x) S).wp QI := by
  show (bnd _ _ S).wp QI = _
  simp only [wp_bnd]
@[simp] theorem i_rng {QI : List Tv × List (Nat × List Tv) → Sto → Prop} : (evI cf (.rng a) env S).wp QI = ((ev cf a).v env S).wp fun x S => match x with
    | .int i => if -1000000 < i ∧ i < 1000000 then QI (rngT 0 i.toNat, []) S else False
    | _ => False := by
  show (bnd _ _ S).wp QI = _
  simp only [wp_bnd]
  congr 1; funext x S
  cases x with
  | int i => simp only; split <;> simp only [wp_ok, wp_bad]
  | _ => simp only [wp_bad]
@[simp] theorem i_zip {QI : List Tv × List (Nat × List Tv) → Sto → Prop} : (evI cf (.zip a b) env S).wp QI = ((ev cf a).v env S).wp fun x S => ((ev cf b).v env S).wp fun y S => match srcOf S x, srcOf S y with
    | some (xs, u), some (ys, v) => QI (zipT xs ys, u ++ v) S
    | _, _ => False := by
  show (bnd _ _ S).wp QI = _
  simp only [wp_bnd]
  congr 1; funext x S
  congr 1; funext y S
  cases srcOf S x <;> cases srcOf S y <;> first | rfl | simp only [wp_ok, wp_ex, wp_bad, sw_nx, sw_rt, sw_bk, sw_ct, sw_ex, sw_bad]
@[simp] theorem i_enum {QI : List Tv × List (Nat × List Tv) → Sto → Prop} : (evI cf (.enum a) env S).wp QI = ((ev cf a).v env S).wp fun x S => match srcOf S x with
    | some (xs, u) => QI (enumT 0 xs, u) S
    | none => False := by
  show (bnd _ _ S).wp QI = _
  simp only [wp_bnd]
  congr 1; funext x S
  cases srcOf S x <;> first | rfl | simp only [wp_ok, wp_ex, wp_bad, sw_nx, sw_rt, sw_bk, sw_ct, sw_ex, sw_bad]
@[simp] theorem t_call {f : Nat} : ((ev cf (.call f es)).t env S).wp QB = ((ev cf (.call f es)).v env S).wp fun x S => (truthM x S).wp QB := wp_bnd (m := (ev cf (.call f es)).v env)
@[simp] theorem t_prim {p : Pr} : ((ev cf (.prim p es)).t env S).wp QB = ((ev cf (.prim p es)).v env S).wp fun x S => (truthM x S).wp QB := wp_bnd (m := (ev cf (.prim p es)).v env)
@[simp] theorem opt_some {α : Type} {t : α} {Q : α → Sto → Prop} : (opt (some t) S).wp Q = Q t S := wp_ok
theorem setAt_lst {n k : Nat} {ts : List Tv} {t : Tv} {i : Int} (h : S[n]? = some (.lst ts)) (hi : L2.ixN ts.length i = some k) : setAt (.cell n) (.int i) t S = some (S.set n (.lst (ts.set k t))) := by
  simp only [setAt, h, hi, Option.map_some]
theorem ix_lst {n : Nat} {ts : List Tv} {i : Int} (h : S[n]? = some (.lst ts)) : ixV S (.cell n) (.int i) = L2.atI ts i := by simp only [ixV, seqOf, h, Option.bind_some]
@[simp] theorem t_nop : ((ev cf .nop).t env S).wp QB = QB true S := wp_ok
@[simp] theorem w_sl0 {hi : Int} : ((ev cf (.sl a .nop (.int hi))).v env S).wp Q = ((ev cf a).v env S).wp fun x S => (opt (slV S x none (some hi)) S).wp Q := by
  show (bnd _ _ S).wp Q = _
  simp only [wp_bnd]
  congr 1; funext x S
  show ((ret none S).wp _) = _
  rw [wp_ret]
  show (((bnd (fun S => Rs.ok (Tv.int hi) S) fun x => match x with
    | .int i => ret (some i)
    | _ => bad) S).wp _) = _
  rw [wp_bnd, wp_ok, wp_ret]
theorem var_at {i : Nat} {t : Tv} (h : env[i]? = some (some t)) : (varM i env S).wp Q = Q t S := by
  unfold varM
  rw [h]
  simp only [wp_ok]
end
end Mp
namespace Mp
theorem run_same {cf : Nat → List Tv → M Tv} {d : Df} {as : List Tv} {S : Sto} {Q : Tv → Sto → Prop} (hl : as.length = d.k)
    (h : (exs cf Fu d.body (as.map some ++ List.replicate (d.n - d.k) none) S).wp { nx := fun _ S' => Q .non S', rt := fun t S' => S'.length = S.length ∧ Q t S' }) : (runD cf d as S).wp Q := by
  refine run_wp hl (sr_mono h (fun _ _ q => q) (fun t S' ⟨h1, h2⟩ => ?_) (fun _ _ q => q) fun _ _ q => q)
  show if S'.take S.length = S ∧ t.noCell = true then Q t S else Q t S'
  split
  · rename_i hc
    have e : S' = S := by rw [← hc.1, ← h1, List.take_length]
    rw [← e]
    exact h2
  · exact h2
/-- a def that leaves the store as it is -/
theorem run_pure {cf : Nat → List Tv → M Tv} {d : Df} {as : List Tv} {S : Sto} {Q : Tv → Prop} (hl : as.length = d.k)
    (h : (exs cf Fu d.body (as.map some ++ List.replicate (d.n - d.k) none) S).wp { nx := fun _ _ => False, rt := fun t S' => S' = S ∧ Q t }) : ∃ t, runD cf d as S = .ok t S ∧ Q t := by
  have z : (runD cf d as S).wp fun t S' => S' = S ∧ Q t :=
    run_same hl (sr_mono h (fun _ _ q => q.elim) (fun t S' ⟨h1, h2⟩ => ⟨by rw [h1], h1, h2⟩) (fun _ _ q => q) fun _ _ q => q)
  obtain ⟨t, S', e, rfl, q⟩ := wp_get z
  exact ⟨t, e, q⟩
/-! ### the deck -/
def xDraw : Df := ⟨5, 2,
  [
    .ifS (.cmp .ne (.ix (.var 0) (.int 0)) (.fz (.disp [])))
      [
        .asg (.v 4) (.ix (.ix (.var 0) (.int 0)) (.int 0)),
        .setIx (.ix (.var 0) (.int 0)) (.int 0) (.bin .fdiv (.var 4) (.var 1)),
        .ifS (.cmp .eq (.ix (.ix (.var 0) (.int 0)) (.int 0)) (.int 0))
          [
            .drop (.popAt (.ix (.var 0) (.int 0)) (.int 0))]
          [],
        .ret (.bin .mod (.prim .int [(.var 4)]) (.var 1))]
      [],
    .setIx (.var 0) (.int 2) (.bin .add (.ix (.var 0) (.int 2)) (.int 1)),
    .asg (.v 2) (.ix (.ix (.var 0) (.int 1)) (.bin .mod (.prim .int [(.ix (.var 0) (.int 2))]) (.prim .len [(.ix (.var 0) (.int 1))]))),
    .asg (.v 3) (.bin .mod (.prim .int [(.bin .add (.bin .mod (.prim .int [(.var 2)]) (.int 4294967291)) (.bin .mul (.int 2654435761) (.ix (.var 0) (.int 2))))]) (.int 4294967291)),
    .asg (.v 3) (.bin .mod (.prim .int [(.bin .add (.bin .mul (.var 3) (.var 3)) (.bin .mul (.int 40503) (.ix (.var 0) (.int 2))))]) (.int 4294967279)),
    .ret (.bin .mod (.bin .fdiv (.bin .mod (.prim .int [(.bin .mul (.var 3) (.var 3))]) (.int 4294967231)) (.int 4096)) (.var 1))]⟩
/-- the deck at the places n0, n1: what is left of great numbers, the numbers, how often it was asked (at most b) -/
structure Deck (S : Sto) (n0 n1 b : Nat) : Prop where
  ex : ∃ (gs cs : List Int) (c : Int), S[n0]? = some (.lst [.cell n1, .lst (cs.map Tv.int), .int c]) ∧ S[n1]? = some (.lst (gs.map Tv.int)) ∧ cs ≠ [] ∧ cs.length ≤ 64 ∧ 0 ≤ c ∧ c ≤ b
  ne : n0 ≠ n1
/-- all places but these stand -/
structure Oth (n0 n1 : Nat) (S S' : Sto) : Prop where
  len : S'.length = S.length
  at' : ∀ n, n ≠ n0 → n ≠ n1 → S'[n]? = S[n]?
theorem at0 {α : Type} {x : α} {xs : List α} : L2.atI (x :: xs) 0 = some x := L2.atI_nat (j := 0) rfl
theorem at1 {α : Type} {x y : α} {xs : List α} : L2.atI (x :: y :: xs) 1 = some y := L2.atI_nat (j := 1) rfl
theorem at2 {α : Type} {x y z : α} {xs : List α} : L2.atI (x :: y :: z :: xs) 2 = some z := L2.atI_nat (j := 2) rfl
theorem lim_0 : (0 : Nat) ≤ lim := Nat.zero_le _
theorem dOks_ints : ∀ (k : Nat) (gs : List Int), Tv.dOks k (gs.map Tv.int) = true
  | _, [] => rfl
  | k, g :: r => by
    simp only [List.map_cons, Tv.dOks, dOks_ints k r, Bool.and_true]
    cases k <;> rfl
theorem ne_nil {n1 : Nat} {S : Sto} {gs : List Int} (h1 : S[n1]? = some (.lst (gs.map Tv.int))) : cmpV .ne S (.cell n1) (.lst []) = some (!gs.isEmpty) := by
  have d := dOks_ints 15 gs
  cases gs with
  | nil => simp [cmpV, eqS, eqS0, thaw, h1, Tv.dOk, Tv.dOks, Tv.eqb, Tv.eqbs]
  | cons g r =>
    simp only [List.map_cons] at d h1
    simp [cmpV, eqS, eqS0, thaw, h1, Tv.dOk, Tv.dOks, Tv.eqb, Tv.eqbs]
    exact (by simpa [Tv.dOks] using d : _ ∧ Tv.dOks 15 (r.map Tv.int) = true).2
theorem eq_int {S : Sto} {i j : Int} : cmpV .eq S (.int i) (.int j) = some (i == j) := by
  simp [cmpV, eqS, eqS0, thaw, Tv.dOk, Tv.eqb]
theorem mod_int {S : Sto} {i j : Int} (h : 0 < j) : binV .mod S (.int i) (.int j) = some (.int (i % j)) := by simp only [binV]; rw [if_pos h]
theorem fdiv_int {S : Sto} {i j : Int} (h : 0 < j) (h2 : j.natAbs.log2 < 9000) : binV .fdiv S (.int i) (.int j) = some (.int (i / j)) := by simp only [binV]; rw [if_pos ⟨h, h2⟩]
theorem add_int {S : Sto} {i j : Int} : binV .add S (.int i) (.int j) = some (.int (i + j)) := rfl
theorem mul_int {S : Sto} {i j : Int} (h : i.natAbs.log2 + j.natAbs.log2 < 1000000) : binV .mul S (.int i) (.int j) = some (.int (i * j)) := by simp only [binV, mulV]; rw [if_pos h]
theorem int_int {S : Sto} {i : Int} : primV .int S [.int i] = some (.int i) := rfl
theorem need_at {n : Nat} {ts : List Tv} {S : Sto} {Q : Nat → Sto → Prop} (h : S[n]? = some (.lst ts)) : (needL (.cell n) S).wp Q = Q n S := by
  simp only [needL, h, wp_ok]
theorem popAt0 {n : Nat} {t : Tv} {ts : List Tv} {S : Sto} {Q : Tv → Sto → Prop} (h : S[n]? = some (.lst (t :: ts))) : (popAtL (.cell n) (.int 0) S).wp Q = Q t (S.set n (.lst ts)) := by
  have e : popAtL (.cell n) (.int 0) S = .ok t (S.set n (.lst ts)) := by
    simp only [popAtL, h]
    rfl
  rw [e, wp_ok]
theorem set_at {S : Sto} {n : Nat} {o u : Ob} (h : S[n]? = some o) : (S.set n u)[n]? = some u := List.getElem?_set_self (List.getElem?_eq_some_iff.mp h).1
theorem set_ne {S : Sto} {n m : Nat} {u : Ob} (h : n ≠ m) : (S.set m u)[n]? = S[n]? := List.getElem?_set_ne (Ne.symm h)
theorem draw_ok {cf : Nat → List Tv → M Tv} {S : Sto} {n0 n1 b : Nat} {many : Int} (h : Deck S n0 n1 b) (hm : 0 < many) (hm2 : many.natAbs.log2 < 9000) (hb : b < 1000000) :
    (runD cf xDraw [.cell n0, .int many] S).wp fun t S' => ∃ v : Int, t = .int v ∧ 0 ≤ v ∧ v < many ∧ Deck S' n0 n1 (b + 1) ∧ Oth n0 n1 S S' := by
  obtain ⟨⟨gs, cs, c, h0, h1, hc, hl, c0, cb⟩, hn⟩ := h
  refine run_same rfl ?_
  show (exs cf Fu xDraw.body [some (.cell n0), some (.int many), none, none, none] S).wp _
  unfold xDraw
  rw [exs_cons]
  simp only [ex_if, t_cmp, w_ix, w_var, List.getElem?_cons_zero, w_int, ix_lst h0, at0, opt_some, w_fz, w_disp, w_nil, List.length_nil, lim_0, if_true, ne_nil h1]
  cases gs with
  | cons g r =>
    simp only [List.isEmpty_cons, Bool.not_false, if_true]
    rw [exs_cons]
    simp only [ex_asg, w_ix, w_var, List.getElem?_cons_zero, w_int, ix_lst h0, at0, opt_some, ix_lst h1, List.map_cons, setTg, List.set_cons_zero, List.set_cons_succ]
    rw [exs_cons]
    simp only [ex_set, w_bin, w_ix, w_var, List.getElem?_cons_zero, List.getElem?_cons_succ, w_int, ix_lst h0, at0, opt_some]
    have e2 : setAt (.cell n1) (.int 0) (.int (g / many)) S = some (S.set n1 (.lst ((Tv.int g :: r.map Tv.int).set 0 (.int (g / many))))) := setAt_lst (by rw [h1]; rfl) (by simp [L2.ixN])
    simp only [fdiv_int hm hm2, opt_some, ix_lst h0, at0, e2, List.set_cons_zero]
    have h0' : (S.set n1 (.lst (Tv.int (g / many) :: r.map Tv.int)))[n0]? = some (.lst [.cell n1, .lst (cs.map Tv.int), .int c]) := by rw [set_ne hn]; exact h0
    have h1' : (S.set n1 (.lst (Tv.int (g / many) :: r.map Tv.int)))[n1]? = some (.lst (Tv.int (g / many) :: r.map Tv.int)) := set_at h1
    generalize hS1 : S.set n1 (.lst (Tv.int (g / many) :: r.map Tv.int)) = S1 at h0' h1'
    have o1 : Oth n0 n1 S S1 := by subst hS1; exact ⟨List.length_set, fun n _ h2 => set_ne h2⟩
    rw [exs_cons]
    simp only [ex_if, t_cmp, w_ix, w_var, List.getElem?_cons_zero, w_int, ix_lst h0', at0, opt_some, ix_lst h1', eq_int]
    have done : ∀ (F : Env → Sto → Prop) S2, S2.length = S.length → Deck S2 n0 n1 (b + 1) → Oth n0 n1 S S2 → (exs cf Fu [.ret (.bin .mod (.prim .int [(.var 4)]) (.var 1))] [some (.cell n0), some (.int many), none, none, some (.int g)] S2).wp
        { nx := F, rt := fun t S' => S'.length = S.length ∧ ∃ v : Int, t = .int v ∧ 0 ≤ v ∧ v < many ∧ Deck S' n0 n1 (b + 1) ∧ Oth n0 n1 S S' } := by
      intro F S2 l2 d2 o2
      rw [exs_cons]
      simp only [ex_ret, w_bin, w_prim, w_cons, w_nil, w_var, List.getElem?_cons_zero, List.getElem?_cons_succ, int_int, opt_some, mod_int hm]
      exact ⟨l2, _, rfl, Int.emod_nonneg _ (by omega), Int.emod_lt_of_pos _ hm, d2, o2⟩
    have dk1 : Deck S1 n0 n1 (b + 1) := ⟨⟨(g / many) :: r, cs, c, h0', h1', hc, hl, c0, by omega⟩, hn⟩
    by_cases hz : (g / many == 0) = true
    · rw [if_pos hz, exs_cons]
      simp only [ex_drop, w_popAt, w_ix, w_var, List.getElem?_cons_zero, w_int, ix_lst h0', at0, opt_some, need_at h1', popAt0 h1', exs_nil]
      refine done _ _ (by rw [List.length_set]; exact o1.len) ⟨⟨r, cs, c, by rw [set_ne hn]; exact h0', set_at h1', hc, hl, c0, by omega⟩, hn⟩ ⟨by rw [List.length_set]; exact o1.len, fun n a1 a2 => by rw [set_ne a2]; exact o1.at' n a1 a2⟩
    · rw [if_neg hz]
      simp only [exs_nil]
      exact done _ S1 o1.len dk1 o1
  | nil =>
    simp only [List.isEmpty_nil, Bool.not_true, Bool.false_eq_true, if_false, exs_nil]
    rw [exs_cons]
    have e2 : setAt (.cell n0) (.int 2) (.int (c + 1)) S = some (S.set n0 (.lst [.cell n1, .lst (cs.map Tv.int), .int (c + 1)])) := setAt_lst (i := 2) (k := 2) h0 (by simp [L2.ixN])
    simp only [ex_set, w_bin, w_ix, w_var, List.getElem?_cons_zero, w_int, ix_lst h0, at2, opt_some, add_int, e2]
    have h0' : (S.set n0 (.lst [.cell n1, .lst (cs.map Tv.int), .int (c + 1)]))[n0]? = some (.lst [.cell n1, .lst (cs.map Tv.int), .int (c + 1)]) := set_at h0
    have h1' : (S.set n0 (.lst [.cell n1, .lst (cs.map Tv.int), .int (c + 1)]))[n1]? = some (.lst (([] : List Int).map Tv.int)) := by rw [set_ne (Ne.symm hn)]; exact h1
    generalize hS1 : S.set n0 (.lst [.cell n1, .lst (cs.map Tv.int), .int (c + 1)]) = S1 at h0' h1'
    have o1 : Oth n0 n1 S S1 := by subst hS1; exact ⟨List.length_set, fun n h1 _ => set_ne h1⟩
    have dk1 : Deck S1 n0 n1 (b + 1) := ⟨⟨[], cs, c + 1, h0', h1', hc, hl, by omega, by omega⟩, hn⟩
    have hcl : 0 < cs.length := List.length_pos_iff.mpr hc
    have hcl' : (0 : Int) < (cs.map Tv.int).length := by rw [List.length_map]; omega
    obtain ⟨x, hx⟩ : ∃ x, L2.atI (cs.map Tv.int) ((c + 1) % (cs.map Tv.int).length) = some (.int x) := by
      have q1 := Int.emod_nonneg (c + 1) (by omega : ((cs.map Tv.int).length : Int) ≠ 0)
      have q2 := Int.emod_lt_of_pos (c + 1) hcl'
      obtain ⟨j, hj⟩ := Int.eq_ofNat_of_zero_le q1
      rw [hj] at q2 ⊢
      have hj2 : j < cs.length := by rw [List.length_map] at q2; omega
      exact ⟨cs[j], L2.atI_nat (by simp [hj2])⟩
    rw [exs_cons]
    have ixl : ∀ j : Int, ixV S1 (.lst (cs.map Tv.int)) (.int j) = L2.atI (cs.map Tv.int) j := fun j => rfl
    have lenl : primV .len S1 [.lst (cs.map Tv.int)] = some (.int (cs.map Tv.int).length) := rfl
    simp only [ex_asg, w_bin, w_ix, w_prim, w_cons, w_nil, w_var, List.getElem?_cons_zero, w_int, ix_lst h0', at1, at2, opt_some, int_int, lenl, mod_int hcl', ixl, hx, setTg, List.set_cons_zero, List.set_cons_succ]
    rw [exs_cons]
    have hb2 : ∀ y : Int, 0 ≤ y → y < 4294967291 → y.natAbs.log2 ≤ 40 := fun y y0 y1 => by
      have h1 : y.natAbs < 4294967296 := by omega
      by_cases hz : y.natAbs = 0
      · rw [hz]; decide
      · have h2 : y.natAbs.log2 < 33 := (Nat.log2_lt hz).mpr (Nat.lt_of_lt_of_le h1 (by decide))
        omega
    have hc2 : (c + 1).natAbs.log2 ≤ 40 := hb2 _ (by omega) (by omega)
    have m1 : ∀ S, binV .mul S (.int 2654435761) (.int (c + 1)) = some (.int (2654435761 * (c + 1))) := fun S => mul_int (by
      have : (2654435761 : Int).natAbs.log2 ≤ 40 := by decide
      omega)
    have m2 : ∀ S, binV .mul S (.int 40503) (.int (c + 1)) = some (.int (40503 * (c + 1))) := fun S => mul_int (by
      have : (40503 : Int).natAbs.log2 ≤ 40 := by decide
      omega)
    have p1 : ∀ S i, binV .mod S (.int i) (.int 4294967291) = some (.int (i % 4294967291)) := fun S i => mod_int (by decide)
    have p2 : ∀ S i, binV .mod S (.int i) (.int 4294967279) = some (.int (i % 4294967279)) := fun S i => mod_int (by decide)
    have p3 : ∀ S i, binV .mod S (.int i) (.int 4294967231) = some (.int (i % 4294967231)) := fun S i => mod_int (by decide)
    have p4 : ∀ S i, binV .fdiv S (.int i) (.int 4096) = some (.int (i / 4096)) := fun S i => fdiv_int (by decide) (by decide)
    simp only [ex_asg, w_bin, w_ix, w_prim, w_cons, w_nil, w_var, List.getElem?_cons_zero, List.getElem?_cons_succ, w_int, ix_lst h0', at2, opt_some, int_int, p1, m1, add_int, setTg, List.set_cons_zero, List.set_cons_succ]
    generalize hy : (x % 4294967291 + 2654435761 * (c + 1)) % 4294967291 = y
    have y0 : 0 ≤ y ∧ y < 4294967291 := by subst hy; exact ⟨Int.emod_nonneg _ (by decide), Int.emod_lt_of_pos _ (by decide)⟩
    have m3 : ∀ S, binV .mul S (.int y) (.int y) = some (.int (y * y)) := fun S => mul_int (by
      have := hb2 y y0.1 y0.2
      omega)
    rw [exs_cons]
    simp only [ex_asg, w_bin, w_ix, w_prim, w_cons, w_nil, w_var, List.getElem?_cons_zero, List.getElem?_cons_succ, w_int, ix_lst h0', at2, opt_some, int_int, p2, m2, m3, add_int, setTg, List.set_cons_zero, List.set_cons_succ]
    generalize hz : (y * y + 40503 * (c + 1)) % 4294967279 = z
    have z0 : 0 ≤ z ∧ z < 4294967279 := by subst hz; exact ⟨Int.emod_nonneg _ (by decide), Int.emod_lt_of_pos _ (by decide)⟩
    have m4 : ∀ S, binV .mul S (.int z) (.int z) = some (.int (z * z)) := fun S => mul_int (by
      have := hb2 z z0.1 (by omega)
      omega)
    rw [exs_cons]
    simp only [ex_ret, w_bin, w_ix, w_prim, w_cons, w_nil, w_var, List.getElem?_cons_zero, List.getElem?_cons_succ, w_int, opt_some, int_int, p3, p4, m4, mod_int hm]
    exact ⟨o1.len, _, rfl, Int.emod_nonneg _ (by omega), Int.emod_lt_of_pos _ hm, dk1, o1⟩
end Mp
namespace Mp
/-! ### the greatest common divisor -/
def xDivisor : Df := ⟨4, 1,
  [
    .asg (.v 1) (.int 0),
    .forS (.v 2) (.seq (.var 0))
      [
        .asg (.v 3) (.prim .abs [(.var 2)]),
        .whileS (.cmp .gt (.var 3) (.int 0))
          [
            .asg (.tup [(.v 3), (.v 1)]) (.tup [(.bin .mod (.var 1) (.var 3)), (.var 3)])]],
    .ret (.var 1)]⟩
/-- the divisor of a row, from f on -/
def gcdF (f : Nat) : List Int → Nat
  | [] => f
  | n :: r => gcdF (Nat.gcd n.natAbs f) r
theorem gcdF_div : ∀ (ns : List Int) (f : Nat), gcdF f ns ∣ f ∧ ∀ n ∈ ns, (gcdF f ns : Int) ∣ n
  | [], f => ⟨Nat.dvd_refl f, fun n h => by cases h⟩
  | n :: r, f => by
    obtain ⟨h1, h2⟩ := gcdF_div r (Nat.gcd n.natAbs f)
    refine ⟨Nat.dvd_trans h1 (Nat.gcd_dvd_right _ _), fun m hm => ?_⟩
    rcases List.mem_cons.mp hm with e | e
    · subst e
      exact Int.ofNat_dvd_left.mpr (Nat.dvd_trans h1 (Nat.gcd_dvd_left _ _))
    · exact h2 m e
/-- turns that are left -/
def gmu (o f : Nat) : Nat := if o = 0 then 0 else (o * f).log2 + if o < f then 1 else 2
theorem gmu_step {o f : Nat} (h : 0 < o) : gmu (f % o) o < gmu o f := by
  unfold gmu
  rw [if_neg (show ¬ o = 0 by omega)]
  by_cases hz : f % o = 0
  · rw [if_pos hz]
    split <;> omega
  · rw [if_neg hz]
    have hlt : f % o < o := Nat.mod_lt _ h
    rw [if_pos hlt]
    by_cases hf : o < f
    · rw [if_pos hf]
      have h1 : 2 * (f % o) ≤ f := by
        have := Nat.div_add_mod f o
        have hq : 1 ≤ f / o := Nat.div_pos (by omega) h
        have : o * 1 ≤ o * (f / o) := Nat.mul_le_mul_left o hq
        omega
      have h2 : 2 * ((f % o) * o) ≤ o * f := by
        have := Nat.mul_le_mul_left o h1
        calc 2 * ((f % o) * o) = o * (2 * (f % o)) := by rw [Nat.mul_comm (f % o) o, Nat.mul_left_comm]
          _ ≤ o * f := this
      have hp : (f % o) * o ≠ 0 := Nat.mul_ne_zero hz (by omega)
      have h3 : ((f % o) * o).log2 + 1 ≤ (o * f).log2 := by
        have : (2 * ((f % o) * o)).log2 = ((f % o) * o).log2 + 1 := by rw [Nat.log2_two_mul hp]
        rw [← this]
        exact (Nat.le_log2 (by omega)).mpr (Nat.le_trans (Nat.log2_self_le (by omega)) h2)
      omega
    · rw [if_neg hf]
      have e : f % o = f := by
        by_cases he : f = o
        · subst he; rw [Nat.mod_self] at hz; exact absurd rfl hz
        · exact Nat.mod_eq_of_lt (by omega)
      rw [e, Nat.mul_comm f o]
      omega
theorem gt_int {S : Sto} {i j : Int} : cmpV .gt S (.int i) (.int j) = some (decide (j < i)) := rfl
theorem abs_int {S : Sto} {i : Int} : primV .abs S [.int i] = some (.int (if i < 0 then -i else i)) := rfl
theorem abs_nat (i : Int) : (if i < 0 then -i else i) = (i.natAbs : Int) := by split <;> omega
/-- one, found = found % one, one, as long as one > 0 -/
theorem euclid {cf : Nat → List Tv → M Tv} {S : Sto} {D : Po} {t0 t2 : Option Tv} {o f : Nat} (hl : gmu o f < Fu) (h : ∀ e3 : Option Tv, D.nx [t0, some (.int (Nat.gcd o f)), t2, e3] S) :
    (ex cf Fu (.whileS (.cmp .gt (.var 3) (.int 0)) [.asg (.tup [(.v 3), (.v 1)]) (.tup [(.bin .mod (.var 1) (.var 3)), (.var 3)])]) [t0, some (.int f), t2, some (.int o)] S).wp D := by
  rw [ex_while]
  refine while_inv (fun k env S' => S' = S ∧ ∃ o' f' : Nat, env = [t0, some (.int f'), t2, some (.int o')] ∧ k = gmu o' f' ∧ Nat.gcd o' f' = Nat.gcd o f) ?_ Fu _ _ _ hl ⟨rfl, o, f, rfl, rfl, rfl⟩
  rintro k env S' ⟨rfl, o', f', rfl, rfl, hg⟩
  simp only [t_cmp, w_var, List.getElem?_cons_zero, List.getElem?_cons_succ, w_int, gt_int, opt_some]
  by_cases ho : o' = 0
  · subst ho
    rw [if_neg (by simp)]
    have := h (some (.int (0 : Nat)))
    rw [← hg, Nat.gcd_zero_left] at this
    exact this
  · have ho' : (0 : Int) < (o' : Int) := by omega
    rw [if_pos (decide_eq_true ho'), exs_cons]
    have l2 : ((List.length [Tv.int ((f' : Int) % (o' : Int)), Tv.int (o' : Int)]) ≤ lim) = True := by simp [lim]
    simp only [ex_asg, w_tup, w_cons, w_nil, w_bin, w_var, List.getElem?_cons_zero, List.getElem?_cons_succ, mod_int ho', opt_some, l2, if_true, setTg, setTgs, List.set_cons_zero, List.set_cons_succ, exs_nil]
    refine ⟨gmu (f' % o') o', gmu_step (by omega), trivial, f' % o', o', ?_, rfl, ?_⟩
    · rfl
    · rw [← hg, ← Nat.gcd_rec]
theorem divisor_ok {cf : Nat → List Tv → M Tv} {S : Sto} {ns : List Int} {B : Nat} (hB : ∀ n ∈ ns, ∀ f : Nat, f ≤ B → gmu n.natAbs f < Fu) (hb : ∀ n ∈ ns, n.natAbs ≤ B) : runD cf xDivisor [.tup (ns.map Tv.int)] S = .ok (.int (gcdF 0 ns)) S := by
  obtain ⟨t, e, q⟩ := run_pure (cf := cf) (d := xDivisor) (as := [.tup (ns.map Tv.int)]) (S := S) (Q := fun t => t = .int (gcdF 0 ns)) rfl (by
    show (exs cf Fu xDivisor.body [some (.tup (ns.map Tv.int)), none, none, none] S).wp _
    unfold xDivisor
    rw [exs_cons]
    simp only [ex_asg, w_int, setTg, List.set_cons_zero, List.set_cons_succ]
    rw [exs_cons]
    simp only [ex_for, i_seq, w_var, List.getElem?_cons_zero, srcOf, opt_some]
    refine for_inv (fun ts env S' => S' = S ∧ ∃ (r : List Int) (f : Nat) (e2 e3 : Option Tv), ts = r.map Tv.int ∧ env = [some (.tup (ns.map Tv.int)), some (.int f), e2, e3] ∧ gcdF f r = gcdF 0 ns ∧ f ≤ B ∧ ∀ n ∈ r, n ∈ ns) (fun _ _ _ _ => rfl) ?_ ?_ _ _ _ ⟨rfl, ns, 0, none, none, rfl, rfl, rfl, Nat.zero_le _, fun _ h => h⟩
    · rintro t r env S' ⟨rfl, rr, f, e2, e3, hr, rfl, hg, hf, hm⟩
      cases rr with
      | nil => cases hr
      | cons n rr =>
        simp only [List.map_cons, List.cons.injEq] at hr
        obtain ⟨rfl, rfl⟩ := hr
        refine ⟨_, rfl, ?_⟩
        simp only [List.set_cons_zero, List.set_cons_succ]
        rw [exs_cons]
        simp only [ex_asg, w_prim, w_cons, w_nil, w_var, List.getElem?_cons_zero, List.getElem?_cons_succ, abs_int, opt_some, setTg, List.set_cons_zero, List.set_cons_succ, abs_nat]
        rw [exs_cons]
        refine euclid (hB n (hm n List.mem_cons_self) f hf) fun e3 => ?_
        simp only [exs_nil]
        refine ⟨trivial, rr, Nat.gcd n.natAbs f, _, e3, rfl, rfl, hg, ?_, fun m h => hm m (List.mem_cons_of_mem _ h)⟩
        by_cases hz : n.natAbs = 0
        · rw [hz, Nat.gcd_zero_left]; exact hf
        · exact Nat.le_trans (Nat.gcd_le_left _ (by omega)) (hb n (hm n List.mem_cons_self))
    · rintro env S' ⟨rfl, rr, f, e2, e3, hr, rfl, hg, hf, hm⟩
      cases rr with
      | cons n rr => cases hr
      | nil =>
        dsimp only
        rw [exs_cons]
        simp only [ex_ret, w_var, List.getElem?_cons_zero, List.getElem?_cons_succ]
        exact ⟨trivial, by rw [← hg]; rfl⟩)
  rw [e, q]
end Mp
namespace Mp
def xDeck : Df := ⟨3, 1,
  [
    .asg (.v 1) (.fz (.comp [2] (.prim .abs [(.var 2)]) (.v 2) (.seq (.sl (.var 0) .nop (.int 63))) .nop)),
    .ret (.mu (.disp [(.mu (.comp [2] (.var 2) (.v 2) (.seq (.var 1)) (.cmp .ge (.var 2) (.bin .pow (.int 10) (.int 18))))), (.bin .add (.var 1) (.fz (.disp [(.bin .add (.int 2865) (.prim .len [(.var 1)]))]))), (.int 0)]))]⟩
theorem cutL_map {α β : Type} (f : α → β) (xs : List α) (lo hi : Option Int) : cutL (xs.map f) lo hi = (cutL xs lo hi).map f := by
  unfold cutL
  rw [List.length_map, List.map_take, List.map_drop]
theorem cutL_len {α : Type} (xs : List α) (lo hi : Option Int) : (cutL xs lo hi).length ≤ xs.length := by
  unfold cutL
  rw [List.length_take, List.length_drop]
  omega
theorem evv_var {cf : Nat → List Tv → M Tv} {env : Env} {S : Sto} {i : Nat} {t : Tv} (h : env[i]? = some (some t)) : (ev cf (.var i)).v env S = .ok t S := by
  show varM i env S = _
  unfold varM
  rw [h]
theorem deck_ok {cf : Nat → List Tv → M Tv} {ns : List Int} (hl : ns.length ≤ 63) : (runD cf xDeck [.scr (ns.map Tv.int)] []).wp fun t S => t = .cell 1 ∧ Deck S 1 0 0 ∧ S.length = 2 := by
  refine run_wp rfl ?_
  show (exs cf Fu xDeck.body [some (.scr (ns.map Tv.int)), none, none] []).wp _
  unfold xDeck
  rw [exs_cons]
  have hm : (cutL ns none (some 63)).length ≤ 63 := Nat.le_trans (cutL_len _ _ _) hl
  have hs : slV ([] : Sto) (.scr (ns.map Tv.int)) none (some 63) = some (.lst ((cutL ns none (some 63)).map Tv.int)) := by
    show some (Tv.lst (cutL (ns.map Tv.int) none (some 63))) = _
    rw [cutL_map]
  generalize hms : cutL ns none (some 63) = ms at hm hs
  have c1 : compL ([] : List (Nat × List Tv)) (.v 2) (wipeE [some (.scr (ns.map Tv.int)), none, none] [2]) (ev cf .nop).t (ev cf (.prim .abs [(.var 2)])).v (ms.map Tv.int) [] = .ok ((ms.map fun m => (m.natAbs : Int)).map Tv.int) [] := by
    have z := comp_map (w := []) (tg := .v 2) (env := wipeE [some (.scr (ns.map Tv.int)), none, none] [2]) (c := (ev cf .nop).t) (elt := (ev cf (.prim .abs [(.var 2)])).v) (S := []) (fun _ => true) (fun t => match t with | .int i => .int (i.natAbs : Int) | t => t) rfl (ms.map Tv.int) (fun t ht => by
      obtain ⟨m, _, rfl⟩ := List.mem_map.mp ht
      refine ⟨_, rfl, rfl, fun _ => ?_⟩
      show Rs.ok (Tv.int (if m < 0 then -m else m)) [] = _
      rw [abs_nat])
    rw [z, List.filter_eq_self.mpr (fun _ _ => rfl), List.map_map, List.map_map]
    rfl
  generalize hcs : (ms.map fun m => (m.natAbs : Int)) = cs at c1
  have hcl : cs.length ≤ 63 := by rw [← hcs, List.length_map]; exact hm
  have l1 : ((ms.map Tv.int).length ≤ lim) = True := by rw [List.length_map]; simp [lim]; omega
  simp only [ex_asg, w_fz, w_comp, i_seq, w_sl0, w_var, List.getElem?_cons_zero, hs, opt_some, srcOf, l1, if_true, c1, wp_ok, setTg, List.set_cons_zero, List.set_cons_succ]
  rw [exs_cons]
  have c2 : ∀ S : Sto, compL ([] : List (Nat × List Tv)) (.v 2) (wipeE [some (.scr (ns.map Tv.int)), some (.lst (cs.map Tv.int)), none] [2]) (ev cf (.cmp .ge (.var 2) (.bin .pow (.int 10) (.int 18)))).t (ev cf (.var 2)).v (cs.map Tv.int) S = .ok ((cs.filter fun c => decide ((10 : Int) ^ 18 ≤ c)).map Tv.int) S := fun S => by
    have z := comp_map (w := []) (tg := .v 2) (env := wipeE [some (.scr (ns.map Tv.int)), some (.lst (cs.map Tv.int)), none] [2]) (c := (ev cf (.cmp .ge (.var 2) (.bin .pow (.int 10) (.int 18)))).t) (elt := (ev cf (.var 2)).v) (S := S) (fun t => match t with | .int i => decide ((10 : Int) ^ 18 ≤ i) | _ => false) (fun t => t) rfl (cs.map Tv.int) (fun t ht => by
      obtain ⟨m, _, rfl⟩ := List.mem_map.mp ht
      exact ⟨_, rfl, rfl, fun _ => rfl⟩)
    rw [z]
    congr 1
    rw [List.filter_map, List.map_map]
    rfl
  have l2 : ((cs.map Tv.int).length ≤ lim) = True := by rw [List.length_map]; simp [lim]; omega
  have e1 : ∀ S : Sto, primV .len S [.lst (cs.map Tv.int)] = some (.int (cs.map Tv.int).length) := fun S => rfl
  have e2 : ∀ (S : Sto) (k : Int), binV .add S (.lst (cs.map Tv.int)) (.lst [.int k]) = some (.lst (cs.map Tv.int ++ [.int k])) := fun S k => by
    show (match lstOf S (.lst [.int k]) with
      | some v => if (cs.map Tv.int).length + v.length ≤ lim then some (Tv.lst (cs.map Tv.int ++ v)) else none
      | _ => none) = _
    show (if (cs.map Tv.int).length + 1 ≤ lim then some (Tv.lst (cs.map Tv.int ++ [.int k])) else none) = _
    rw [if_pos (by rw [List.length_map]; simp [lim]; omega)]
  have l3 : ∀ k : Int, (([Tv.int k] : List Tv).length ≤ lim) = True := fun k => by simp [lim]
  have l4 : ∀ a b c : Tv, (([a, b, c] : List Tv).length ≤ lim) = True := fun a b c => by simp [lim]
  simp only [ex_ret, w_mu, w_disp, w_cons, w_nil, w_comp, w_bin, w_prim, w_fz, i_seq, w_var, w_int, List.getElem?_cons_zero, List.getElem?_cons_succ, opt_some, srcOf, l2, if_true, c2, wp_ok, e1, add_int, l3, e2, l4]
  rw [if_neg (by simp [Tv.noCell])]
  refine ⟨rfl, ⟨⟨cs.filter fun c => decide ((10 : Int) ^ 18 ≤ c), cs ++ [2865 + ((cs.map Tv.int).length : Int)], 0, ?_, rfl, by simp, ?_, by omega, by omega⟩, by decide⟩, rfl⟩
  · rw [List.map_append]
    rfl
  · rw [List.length_append]
    simp
    omega
/-! ### one of a list of things -/
def xPick : Nat → Df := fun k => ⟨2, 2, [.ret (.ix (.var 1) (.call k [(.var 0), (.prim .len [(.var 1)])]))]⟩
theorem pick_ok {cf : Nat → List Tv → M Tv} {k : Nat} (hk : cf k = runD cf xDraw ∨ ∃ cf', cf k = runD cf' xDraw) {S : Sto} {n0 n1 b : Nat} {ts : List Tv} (h : Deck S n0 n1 b) (hb : b < 1000000) (h0 : ts ≠ []) (hl : ts.length ≤ 1000) :
    (runD cf (xPick k) [.cell n0, .lst ts] S).wp fun t S' => t ∈ ts ∧ Deck S' n0 n1 (b + 1) ∧ Oth n0 n1 S S' := by
  have dr : (cf k [.cell n0, .int ts.length] S).wp fun t S' => ∃ v : Int, t = .int v ∧ 0 ≤ v ∧ v < (ts.length : Int) ∧ Deck S' n0 n1 (b + 1) ∧ Oth n0 n1 S S' := by
    have hp : (0 : Int) < (ts.length : Int) := by
      have := List.length_pos_iff.mpr h0
      omega
    have h2 : ((ts.length : Int)).natAbs.log2 < 9000 := by
      have e : ((ts.length : Int)).natAbs = ts.length := rfl
      rw [e]
      have hz : ts.length ≠ 0 := by omega
      exact Nat.lt_trans ((Nat.log2_lt hz).mpr (Nat.lt_of_le_of_lt hl (by decide : 1000 < 2 ^ 10))) (by decide)
    rcases hk with hk | ⟨cf', hk⟩
    · rw [hk]; exact draw_ok h hp h2 hb
    · rw [hk]; exact draw_ok h hp h2 hb
  refine run_same rfl ?_
  show (exs cf Fu (xPick k).body [some (.cell n0), some (.lst ts)] S).wp _
  unfold xPick
  rw [exs_cons]
  have e1 : primV .len S [.lst ts] = some (.int ts.length) := rfl
  simp only [ex_ret, w_ix, w_var, w_call, w_cons, w_nil, w_prim, List.getElem?_cons_zero, List.getElem?_cons_succ, e1, opt_some]
  refine wp_mono dr fun t S' ⟨v, hv, v0, v1, d, o⟩ => ?_
  subst hv
  obtain ⟨j, hj⟩ := Int.eq_ofNat_of_zero_le v0
  subst hj
  have hj2 : j < ts.length := by omega
  have e2 : ixV S' (.lst ts) (.int (j : Nat)) = some ts[j] := by
    show L2.atI ts (j : Int) = _
    exact L2.atI_nat (List.getElem?_eq_getElem hj2)
  rw [e2, opt_some]
  exact ⟨o.len, List.getElem_mem hj2, d, o⟩
end Mp
namespace Mp
def xIsZero : Df := ⟨2, 1,
  [
    .ret (.nt (.prim .any [(.fz (.comp [1] (.cmp .ne (.var 1) (.int 0)) (.v 1) (.seq (.var 0)) .nop))]))]⟩
theorem blsOf_map {α : Type} (p : α → Bool) : ∀ xs : List α, blsOf (xs.map fun x => Tv.bl (p x)) = some (xs.map p)
  | [] => rfl
  | x :: r => by simp only [List.map_cons, blsOf, blsOf_map p r, Option.map_some]
theorem ne_int {S : Sto} {i j : Int} : cmpV .ne S (.int i) (.int j) = some (!(i == j)) := by
  show (cmpV .eq S (.int i) (.int j)).map _ = _
  rw [eq_int]
  rfl
theorem evb {cf : Nat → List Tv → M Tv} {env : Env} {S S' : Sto} {e : Ex} {t : Tv} (h : ((ev cf e).v env S).wp fun u S2 => u = t ∧ S2 = S') : (ev cf e).v env S = .ok t S' := by
  obtain ⟨a, S2, e1, rfl, rfl⟩ := wp_get h
  exact e1
theorem evtb {cf : Nat → List Tv → M Tv} {env : Env} {S S' : Sto} {e : Ex} {t : Bool} (h : ((ev cf e).t env S).wp fun u S2 => u = t ∧ S2 = S') : (ev cf e).t env S = .ok t S' := by
  obtain ⟨a, S2, e1, rfl, rfl⟩ := wp_get h
  exact e1
theorem tru_bl' {k : Bool} {S : Sto} {QB : Bool → Sto → Prop} : (truthM (.bl k) S).wp QB = QB k S := wp_ok
theorem isZero_ok {cf : Nat → List Tv → M Tv} {S : Sto} {ns : List Int} (hl : ns.length ≤ 1000) : runD cf xIsZero [.tup (ns.map Tv.int)] S = .ok (.bl (!(ns.any fun n => !(n == 0)))) S := by
  obtain ⟨t, e, q⟩ := run_pure (cf := cf) (d := xIsZero) (as := [.tup (ns.map Tv.int)]) (S := S) (Q := fun t => t = .bl (!(ns.any fun n => !(n == 0)))) rfl (by
    show (exs cf Fu xIsZero.body [some (.tup (ns.map Tv.int)), none] S).wp _
    unfold xIsZero
    rw [exs_cons]
    have c1 : compL ([] : List (Nat × List Tv)) (.v 1) (wipeE [some (.tup (ns.map Tv.int)), none] [1]) (ev cf .nop).t (ev cf (.cmp .ne (.var 1) (.int 0))).v (ns.map Tv.int) S = .ok (ns.map fun n => Tv.bl (!(n == 0))) S := by
      have z := comp_map (w := []) (tg := .v 1) (env := wipeE [some (.tup (ns.map Tv.int)), none] [1]) (c := (ev cf .nop).t) (elt := (ev cf (.cmp .ne (.var 1) (.int 0))).v) (S := S) (fun _ => true) (fun t => match t with | .int i => .bl (!(i == 0)) | t => t) rfl (ns.map Tv.int) (fun t ht => by
        obtain ⟨m, _, rfl⟩ := List.mem_map.mp ht
        refine ⟨_, rfl, rfl, fun _ => evb ?_⟩
        simp only [w_cmp, w_var, wipeE, List.set_cons_zero, List.set_cons_succ, List.getElem?_cons_zero, List.getElem?_cons_succ, w_int, ne_int, opt_some, and_self])
      rw [z, List.filter_eq_self.mpr (fun _ _ => rfl), List.map_map]
      rfl
    have l1 : ((ns.map Tv.int).length ≤ lim) = True := by rw [List.length_map]; simp [lim]; omega
    have e1 : primV .any S [.lst (ns.map fun n => Tv.bl (!(n == 0)))] = some (.bl (ns.any fun n => !(n == 0))) := by
      show ((some (ns.map fun n => Tv.bl (!(n == 0)))).bind fun ts => (blsOf ts).map fun bs => Tv.bl (bs.any id)) = _
      simp only [Option.bind_some, blsOf_map, Option.map_some, List.any_map]
      rfl
    simp only [ex_ret, w_nt, w_prim, w_cons, w_nil, w_fz, w_comp, i_seq, w_var, List.getElem?_cons_zero, srcOf, opt_some, l1, if_true, c1, wp_ok, e1, tru_bl']
    exact ⟨trivial, trivial⟩)
  rw [e, q]
def xIsLess : Df := ⟨2, 2,
  [
    .ret (.cmp .lt (.bin .mul (.ix (.var 0) (.int 0)) (.ix (.var 1) (.int 1))) (.bin .mul (.ix (.var 1) (.int 0)) (.ix (.var 0) (.int 1))))]⟩
theorem lt_int' {S : Sto} {i j : Int} : cmpV .lt S (.int i) (.int j) = some (decide (i < j)) := rfl
theorem isLess_ok {cf : Nat → List Tv → M Tv} {S : Sto} {a b c d : Int} (ha : a.natAbs.log2 < 400000) (hb : b.natAbs.log2 < 400000) (hc : c.natAbs.log2 < 400000) (hd : d.natAbs.log2 < 400000) :
    runD cf xIsLess [.tup [.int a, .int b], .tup [.int c, .int d]] S = .ok (.bl (decide (a * d < c * b))) S := by
  obtain ⟨t, e, q⟩ := run_pure (cf := cf) (d := xIsLess) (as := [.tup [.int a, .int b], .tup [.int c, .int d]]) (S := S) (Q := fun t => t = .bl (decide (a * d < c * b))) rfl (by
    show (exs cf Fu xIsLess.body [some (.tup [.int a, .int b]), some (.tup [.int c, .int d])] S).wp _
    unfold xIsLess
    rw [exs_cons]
    have ix0 : ∀ (S : Sto) (x y : Tv), ixV S (.tup [x, y]) (.int 0) = some x := fun S x y => show L2.atI [x, y] 0 = some x from at0
    have ix1 : ∀ (S : Sto) (x y : Tv), ixV S (.tup [x, y]) (.int 1) = some y := fun S x y => show L2.atI [x, y] 1 = some y from at1
    have m1 : ∀ S, binV .mul S (.int a) (.int d) = some (.int (a * d)) := fun S => mul_int (by omega)
    have m2 : ∀ S, binV .mul S (.int c) (.int b) = some (.int (c * b)) := fun S => mul_int (by omega)
    simp only [ex_ret, w_cmp, w_bin, w_ix, w_var, List.getElem?_cons_zero, List.getElem?_cons_succ, w_int, ix0, ix1, opt_some, m1, m2, lt_int']
    exact ⟨trivial, trivial⟩)
  rw [e, q]
def xFraction : Nat → Df := fun k => ⟨3, 2,
  [
    .asg (.v 2) (.call k [(.tup [(.var 0), (.var 1)])]),
    .ret (.tup [(.bin .fdiv (.var 0) (.var 2)), (.bin .fdiv (.var 1) (.var 2))])]⟩
theorem gcd2 (a b : Int) : gcdF 0 [a, b] = Int.gcd a b := by
  show Nat.gcd b.natAbs (Nat.gcd a.natAbs 0) = Nat.gcd a.natAbs b.natAbs
  rw [Nat.gcd_zero_right, Nat.gcd_comm]
theorem fraction_ok {cf : Nat → List Tv → M Tv} {k : Nat} {S : Sto} {a b : Int} (hk : ∀ S, cf k [.tup [.int a, .int b]] S = .ok (.int (Int.gcd a b)) S) (hz : 0 < Int.gcd a b) (hl : (Int.gcd a b).log2 < 9000) :
    runD cf (xFraction k) [.int a, .int b] S = .ok (.tup [.int (a / Int.gcd a b), .int (b / Int.gcd a b)]) S := by
  obtain ⟨t, e, q⟩ := run_pure (cf := cf) (d := xFraction k) (as := [.int a, .int b]) (S := S) (Q := fun t => t = .tup [.int (a / Int.gcd a b), .int (b / Int.gcd a b)]) rfl (by
    show (exs cf Fu (xFraction k).body [some (.int a), some (.int b), none] S).wp _
    unfold xFraction
    rw [exs_cons]
    have l2 : ∀ x y : Tv, (([x, y] : List Tv).length ≤ lim) = True := fun x y => by simp [lim]
    have hp : (0 : Int) < (Int.gcd a b : Nat) := by omega
    have f1 : ∀ (S : Sto) (i : Int), binV .fdiv S (.int i) (.int (Int.gcd a b : Nat)) = some (.int (i / (Int.gcd a b : Nat))) := fun S i => fdiv_int hp hl
    simp only [ex_asg, w_call, w_cons, w_nil, w_tup, w_var, List.getElem?_cons_zero, List.getElem?_cons_succ, l2, if_true, hk, wp_ok, setTg, List.set_cons_zero, List.set_cons_succ]
    rw [exs_cons]
    simp only [ex_ret, w_tup, w_cons, w_nil, w_bin, w_var, List.getElem?_cons_zero, List.getElem?_cons_succ, f1, opt_some, l2, if_true]
    exact ⟨trivial, trivial⟩)
  rw [e, q]
end Mp
namespace Mp
/-! ### the plain walk goes head first: what comes behind is left as it is -/
theorem wp_cg {α : Type} {r r' : Rs α} {Q : α → Sto → Prop} (h : r = r') : r.wp Q = r'.wp Q := by rw [h]
theorem wps_cg {r r' : Sr} {D : Po} (h : r = r') : r.wp D = r'.wp D := by rw [h]
section
variable {cf : Nat → List Tv → M Tv} {env : Env} {S : Sto} {Q : Tv → Sto → Prop} {QB : Bool → Sto → Prop} {QL : List Tv → Sto → Prop} {a b c e : Ex} {es : List Ex}
theorem t_var {i : Nat} : ((ev cf (.var i)).t env S).wp QB = ((ev cf (.var i)).v env S).wp fun x S => (truthM x S).wp QB := by
  show (bnd ((ev cf (.var i)).v env) _ S).wp QB = _
  rw [wp_bnd]
theorem t_ite : ((ev cf (.ite c a b)).t env S).wp QB = ((ev cf c).t env S).wp fun k S => if k = true then ((ev cf a).t env S).wp QB else ((ev cf b).t env S).wp QB := by
  show (bnd _ _ S).wp QB = _
  simp only [wp_bnd]
  congr 1; funext k S
  cases k <;> rfl
theorem w_chain {o p : Co} : ((ev cf (.chain o p a b c)).v env S).wp Q = ((ev cf (.chain o p a b c)).t env S).wp fun k S => Q (.bl k) S := by
  show (bnd ((ev cf (.chain o p a b c)).t env) _ S).wp Q = _
  simp only [wp_bnd, wp_ret]
theorem w_isC {ng : Bool} {cc : Option Bool} : ((ev cf (.isC ng a cc)).v env S).wp Q = ((ev cf (.isC ng a cc)).t env S).wp fun k S => Q (.bl k) S := by
  show (bnd ((ev cf (.isC ng a cc)).t env) _ S).wp Q = _
  simp only [wp_bnd, wp_ret]
theorem w_rev : ((ev cf (.rev a)).v env S).wp Q = ((ev cf a).v env S).wp fun x S => (opt (revV S x) S).wp Q := by
  show (bnd _ _ S).wp Q = _
  simp only [wp_bnd]
theorem w_pop : ((ev cf (.pop a)).v env S).wp Q = ((ev cf a).v env S).wp fun x S => (popL x S).wp Q := by
  show (bnd _ _ S).wp Q = _
  simp only [wp_bnd]
theorem w_sl {lo hi : Ex} : ((ev cf (.sl a lo hi)).v env S).wp Q = ((ev cf a).v env S).wp fun x S => (evEnd lo ((ev cf lo).v env) S).wp fun l S => (evEnd hi ((ev cf hi).v env) S).wp fun h S => (opt (slV S x l h) S).wp Q := by
  show (bnd _ _ S).wp Q = _
  simp only [wp_bnd]
variable {QE : Option Int → Sto → Prop}
theorem e_nop {m : M Tv} : (evEnd .nop m S).wp QE = QE none S := wp_ok
theorem e_int {i : Int} : (evEnd (.int i) ((ev cf (.int i)).v env) S).wp QE = QE (some i) S := wp_ok
theorem e_var {i : Nat} : (evEnd (.var i) ((ev cf (.var i)).v env) S).wp QE = ((ev cf (.var i)).v env S).wp fun x S => match x with
    | .int i => QE (some i) S
    | _ => False := by
  show (bnd _ _ S).wp QE = _
  simp only [wp_bnd]
  congr 1; funext x S
  cases x <;> first | exact wp_ok | exact wp_bad
theorem e_bin {o : Bo} : (evEnd (.bin o a b) ((ev cf (.bin o a b)).v env) S).wp QE = ((ev cf (.bin o a b)).v env S).wp fun x S => match x with
    | .int i => QE (some i) S
    | _ => False := by
  show (bnd _ _ S).wp QE = _
  simp only [wp_bnd]
  congr 1; funext x S
  cases x <;> first | exact wp_ok | exact wp_bad
theorem i_rng2 {QI : List Tv × List (Nat × List Tv) → Sto → Prop} : (evI cf (.rng2 a b) env S).wp QI = ((ev cf a).v env S).wp fun x S => ((ev cf b).v env S).wp fun y S => match x, y with
    | .int i, .int j => if (-1000000 < i ∧ i < 1000000) ∧ -1000000 < j ∧ j < 1000000 then QI (rngT i (j - i).toNat, []) S else False
    | _, _ => False := by
  show (bnd _ _ S).wp QI = _
  simp only [wp_bnd]
  congr 1; funext x S
  congr 1; funext y S
  cases x <;> cases y <;> first | exact wp_bad | (simp only; split <;> first | exact wp_ok | exact wp_bad)
theorem tru_bl {k : Bool} : (truthM (.bl k) S).wp QB = QB k S := wp_ok
end
theorem le_int' {S : Sto} {i j : Int} : cmpV .le S (.int i) (.int j) = some (decide (i ≤ j)) := rfl
theorem ge_int' {S : Sto} {i j : Int} : cmpV .ge S (.int i) (.int j) = some (decide (j ≤ i)) := rfl
theorem sub_int {S : Sto} {i j : Int} : binV .sub S (.int i) (.int j) = some (.int (i - j)) := rfl
theorem src_lst {S : Sto} {ts : List Tv} : srcOf S (.lst ts) = some (ts, []) := rfl
theorem src_tup {S : Sto} {ts : List Tv} : srcOf S (.tup ts) = some (ts, []) := rfl
theorem len0 : (([] : List Tv).length ≤ lim) = True := by simp [lim]
theorem len1 {a : Tv} : ([a].length ≤ lim) = True := by simp [lim]
theorem len2 {a b : Tv} : ([a, b].length ≤ lim) = True := by simp [lim]
theorem len3 {a b c : Tv} : ([a, b, c].length ≤ lim) = True := by simp [lim]
theorem len4 {a b c d : Tv} : ([a, b, c, d].length ≤ lim) = True := by simp [lim]
theorem len5 {a b c d e : Tv} : ([a, b, c, d, e].length ≤ lim) = True := by simp [lim]
theorem len6 {a b c d e f : Tv} : ([a, b, c, d, e, f].length ≤ lim) = True := by simp [lim]
theorem len7 {a b c d e f g : Tv} : ([a, b, c, d, e, f, g].length ≤ lim) = True := by simp [lim]
theorem len8 {a b c d e f g h : Tv} : ([a, b, c, d, e, f, g, h].length ≤ lim) = True := by simp [lim]
theorem len9 {a b c d e f g h i : Tv} : ([a, b, c, d, e, f, g, h, i].length ≤ lim) = True := by simp [lim]
theorem len10 {a b c d e f g h i j : Tv} : ([a, b, c, d, e, f, g, h, i, j].length ≤ lim) = True := by simp [lim]
section
variable {S : Sto} {x y z u : Tv} {ts : List Tv}
theorem ix_t0 : ixV S (.tup (x :: ts)) (.int 0) = some x := show L2.atI (x :: ts) 0 = some x from at0
theorem ix_t1 : ixV S (.tup (x :: y :: ts)) (.int 1) = some y := show L2.atI (x :: y :: ts) 1 = some y from at1
theorem ix_t2 : ixV S (.tup (x :: y :: z :: ts)) (.int 2) = some z := show L2.atI (x :: y :: z :: ts) 2 = some z from at2
theorem ix_t3 : ixV S (.tup (x :: y :: z :: u :: ts)) (.int 3) = some u := show L2.atI (x :: y :: z :: u :: ts) 3 = some u from L2.atI_nat (j := 3) rfl
theorem ix_l0 : ixV S (.lst (x :: ts)) (.int 0) = some x := show L2.atI (x :: ts) 0 = some x from at0
theorem ix_l1 : ixV S (.lst (x :: y :: ts)) (.int 1) = some y := show L2.atI (x :: y :: ts) 1 = some y from at1
theorem ix_l2 : ixV S (.lst (x :: y :: z :: ts)) (.int 2) = some z := show L2.atI (x :: y :: z :: ts) 2 = some z from at2
theorem is_non : isCV none .non = some true := rfl
end
theorem len_map {α : Type} {f : α → Tv} {xs : List α} (h : xs.length ≤ 100000) : ((xs.map f).length ≤ lim) = True := by
  rw [List.length_map]
  simp [lim]
  omega
theorem rngT_len' : ∀ {m : Nat} {j : Int}, (rngT j m).length = m
  | 0, _ => rfl
  | m + 1, j => by simp only [rngT, List.length_cons, rngT_len']
theorem rngT_map : ∀ (m : Nat) (j : Int), rngT j m = (List.range m).map fun (k : Nat) => Tv.int (j + (k : Int))
  | 0, _ => rfl
  | m + 1, j => by
    rw [rngT, rngT_map m (j + 1), List.range_succ_eq_map, List.map_cons, List.map_map]
    congr 1
    · simp
    · apply List.map_congr_left
      intro k _
      show Tv.int (j + 1 + (k : Int)) = Tv.int (j + ((k + 1 : Nat) : Int))
      rw [Int.natCast_add, Int.add_assoc, Int.add_comm 1]
      rfl
/-- a def that leaves the store as it is and hands back v -/
theorem run_eq {cf : Nat → List Tv → M Tv} {d : Df} {as : List Tv} {S : Sto} {v : Tv} (hl : as.length = d.k)
    (h : (exs cf Fu d.body (as.map some ++ List.replicate (d.n - d.k) none) S).wp { nx := fun _ _ => False, rt := fun t S' => S' = S ∧ t = v }) : runD cf d as S = .ok v S := by
  obtain ⟨t, e, q⟩ := run_pure hl h
  rw [e, q]
/-- a def with lists of its own that leaves what stood as it was -/
theorem run_own {cf : Nat → List Tv → M Tv} {d : Df} {as : List Tv} {S : Sto} {Q : Tv → Prop} (hl : as.length = d.k)
    (h : (exs cf Fu d.body (as.map some ++ List.replicate (d.n - d.k) none) S).wp { nx := fun _ _ => False, rt := fun t S' => S'.take S.length = S ∧ t.noCell = true ∧ Q t }) : ∃ t, runD cf d as S = .ok t S ∧ Q t := by
  have z : (runD cf d as S).wp fun t S' => S' = S ∧ Q t := by
    refine run_wp hl (sr_mono h (fun _ _ q => q.elim) (fun t S' ⟨h1, h2, h3⟩ => ?_) (fun _ _ q => q) fun _ _ q => q)
    show if S'.take S.length = S ∧ t.noCell = true then _ else _
    rw [if_pos ⟨h1, h2⟩]
    exact ⟨rfl, h3⟩
  obtain ⟨t, S', e, rfl, q⟩ := wp_get z
  exact ⟨t, e, q⟩
/-- a comprehension over a mapped list that writes nothing -/
theorem comp_on {α : Type} {w : List (Nat × List Tv)} {tg : Tg} {env : Env} {c : Env → M Bool} {elt : Env → M Tv} {S : Sto} {f : α → Tv} {xs : List α} (p : α → Bool) (g : α → Tv) (hw : stays w S = true)
    (h : ∀ x ∈ xs, match setTg tg (f x) env with
      | some e => (c e S).wp fun k S' => (S' = S ∧ k = p x) ∧ if k = true then (elt e S).wp fun y S' => S' = S ∧ y = g x else True
      | none => False) : compL w tg env c elt (xs.map f) S = .ok ((xs.filter p).map g) S := by
  induction xs with
  | nil => simp only [List.map_nil, compL]; rw [if_pos hw]; rfl
  | cons x r ih =>
    have ih := ih fun y hy => h y (List.mem_cons_of_mem _ hy)
    have hx := h x List.mem_cons_self
    simp only [List.map_cons, compL]
    rw [if_pos hw]
    cases hs : setTg tg (f x) env with
    | none => rw [hs] at hx; exact hx.elim
    | some e =>
      rw [hs] at hx
      obtain ⟨k, S1, hc, ⟨rfl, rfl⟩, hy⟩ := wp_get hx
      simp only [bnd, calmM, hc, Rs.bnd]
      cases hp : p x with
      | false =>
        simp only [Bool.false_eq_true, if_false]
        rw [ih, List.filter_cons]
        simp [hp]
      | true =>
        rw [hp, if_pos rfl] at hy
        obtain ⟨y, S2, he, rfl, rfl⟩ := wp_get hy
        simp only [if_true, bnd, calmM, he, Rs.bnd, ih]
        rw [List.filter_cons]
        simp [hp, ret]
theorem comp_all {α : Type} {w : List (Nat × List Tv)} {tg : Tg} {env : Env} {cf : Nat → List Tv → M Tv} {elt : Env → M Tv} {S : Sto} {f : α → Tv} {xs : List α} (g : α → Tv) (hw : stays w S = true)
    (h : ∀ x ∈ xs, match setTg tg (f x) env with
      | some e => (elt e S).wp fun y S' => S' = S ∧ y = g x
      | none => False) : compL w tg env (ev cf .nop).t elt (xs.map f) S = .ok (xs.map g) S := by
  have z := comp_on (c := (ev cf .nop).t) (fun _ => true) g hw (S := S) (f := f) (xs := xs) (tg := tg) (env := env) (elt := elt) (fun x hx => by
    have := h x hx
    cases hs : setTg tg (f x) env with
    | none => rw [hs] at this; exact this.elim
    | some e =>
      rw [hs] at this
      simp only [t_nop]
      simp only [and_self, if_true, true_and]
      exact this)
  rw [z, List.filter_eq_self.mpr (fun _ _ => rfl)]
/-- a for over a mapped list: what is gone through, what is left -/
theorem for_on {α : Type} {f : α → Tv} {w : List (Nat × List Tv)} {tg : Tg} {body : Env → Sto → Sr} {D : Po} {xs : List α} (P : List α → List α → Env → Sto → Prop) (hw : ∀ dn r e S, P dn r e S → stays w S = true)
    (step : ∀ dn x r env S, xs = dn ++ x :: r → P dn (x :: r) env S → match setTg tg (f x) env with
      | some e => (body e S).wp { nx := P (dn ++ [x]) r, ct := P (dn ++ [x]) r, bk := D.nx, rt := D.rt }
      | none => False) (fin : ∀ env S, P xs [] env S → D.nx env S) {env : Env} {S : Sto} (h0 : P [] xs env S) : (forL w tg body (xs.map f) env S).wp D := by
  have go : ∀ (r dn : List α) (env : Env) (S : Sto), xs = dn ++ r → P dn r env S → (forL w tg body (r.map f) env S).wp D := by
    intro r
    induction r with
    | nil =>
      intro dn env S hx h
      simp only [List.map_nil, forL]
      rw [if_pos (hw _ _ _ _ h)]
      rw [List.append_nil] at hx
      subst hx
      rw [sw_nx]
      exact fin env S h
    | cons x r ih =>
      intro dn env S hx h
      simp only [List.map_cons, forL]
      rw [if_pos (hw _ _ _ _ h)]
      have z := step dn x r env S hx h
      have hx2 : xs = (dn ++ [x]) ++ r := by rw [hx]; simp
      cases hs : setTg tg (f x) env with
      | none => rw [hs] at z; exact z.elim
      | some e =>
        rw [hs] at z
        simp only at z ⊢
        cases eb : body e S with
        | nx e' S' => rw [eb, sw_nx] at z; exact ih _ e' S' hx2 z
        | ct e' S' => rw [eb, sw_ct] at z; exact ih _ e' S' hx2 z
        | bk e' S' => rw [eb, sw_bk] at z; simp only [sw_nx]; exact z
        | rt t S' => rw [eb, sw_rt] at z; simp only [sw_rt]; exact z
        | ex c fs e' S' => rw [eb, sw_ex] at z; exact z.elim
        | bad => rw [eb, sw_bad] at z; exact z.elim
  exact go xs [] env S rfl h0
end Mp
namespace Mp
/-! ### shares by cross products -/
/-- s is at most m, as a share -/
def leC (s m : Int × Int) : Prop := s.1 * m.2 ≤ m.1 * s.2
theorem leC_trans {a b c : Int × Int} (ha : 0 < a.2) (hb : 0 < b.2) (hc : 0 < c.2) (h1 : leC a b) (h2 : leC b c) : leC a c := by
  unfold leC at *
  have e1 : a.1 * b.2 * c.2 ≤ b.1 * a.2 * c.2 := Int.mul_le_mul_of_nonneg_right h1 (by omega)
  have e2 : b.1 * c.2 * a.2 ≤ c.1 * b.2 * a.2 := Int.mul_le_mul_of_nonneg_right h2 (by omega)
  have e3 : a.1 * c.2 * b.2 ≤ c.1 * a.2 * b.2 := by
    have x1 : a.1 * c.2 * b.2 = a.1 * b.2 * c.2 := by rw [Int.mul_assoc, Int.mul_comm c.2, ← Int.mul_assoc]
    have x2 : b.1 * a.2 * c.2 = b.1 * c.2 * a.2 := by rw [Int.mul_assoc, Int.mul_comm a.2, ← Int.mul_assoc]
    have x3 : c.1 * b.2 * a.2 = c.1 * a.2 * b.2 := by rw [Int.mul_assoc, Int.mul_comm b.2, ← Int.mul_assoc]
    omega
  exact Int.le_of_mul_le_mul_right e3 hb
theorem leC_refl (a : Int × Int) : leC a a := Int.le_refl _
def pr (p : Int × Int) : Tv := .tup [.int p.1, .int p.2]
theorem zipT_pr : ∀ (ws rs : List Int), zipT (ws.map Tv.int) (rs.map Tv.int) = (ws.zip rs).map pr
  | [], _ => by simp [zipT]
  | _ :: _, [] => by simp [zipT]
  | w :: ws, r :: rs => by
    simp only [List.map_cons, zipT, List.zip_cons_cons, zipT_pr ws rs]
    rfl
theorem ne_bl {S : Sto} {a b : Bool} : cmpV .ne S (.bl a) (.bl b) = some (!(a == b)) := by
  cases a <;> cases b <;> rfl
def mism (p : Int × Int) : Bool := !((p.1 == 0) == (p.2 == 0))
def xSpread : Df := ⟨7, 2,
  [
    .ifS (.call 4 [(.var 0)])
      [
        .ret (.tup [(.int 0), (.int 1)])]
      [],
    .ifS (.prim .any [(.fz (.comp [3, 6] (.cmp .ne (.cmp .eq (.var 3) (.int 0)) (.cmp .eq (.var 6) (.int 0))) (.tup [(.v 3), (.v 6)]) (.zip (.var 0) (.var 1)) .nop))])
      [
        .ret .non]
      [],
    .asg (.v 2) (.fz (.comp [3, 6] (.tup [(.var 3), (.var 6)]) (.tup [(.v 3), (.v 6)]) (.zip (.var 0) (.var 1)) (.cmp .gt (.var 6) (.int 0)))),
    .asg (.tup [(.v 4), (.v 5)]) (.tup [(.ix (.var 2) (.int 0)), (.ix (.var 2) (.int 0))]),
    .forS (.v 3) (.seq (.var 2))
      [
        .asg (.v 4) (.ite (.call 3 [(.var 4), (.var 3)]) (.var 3) (.var 4)),
        .asg (.v 5) (.ite (.call 3 [(.var 3), (.var 5)]) (.var 3) (.var 5))],
    .ret (.call 2 [(.bin .mul (.ix (.var 4) (.int 0)) (.ix (.var 5) (.int 1))), (.bin .mul (.ix (.var 4) (.int 1)) (.ix (.var 5) (.int 0)))])]⟩
/-- what spread tells -/
def SpreadV (ws rs : List Int) (t : Tv) : Prop :=
  if (ws.any fun n => !(n == 0)) = false then t = .tup [.int 0, .int 1] else if (ws.zip rs).any mism = true then t = .non else
    ∃ m l : Int × Int, m ∈ ws.zip rs ∧ l ∈ ws.zip rs ∧ 0 < m.2 ∧ 0 < l.2 ∧ (∀ s ∈ ws.zip rs, 0 < s.2 → leC s m ∧ leC l s) ∧
      t = .tup [.int (m.1 * l.2 / Int.gcd (m.1 * l.2) (m.2 * l.1)), .int (m.2 * l.1 / Int.gcd (m.1 * l.2) (m.2 * l.1))]
theorem log_small {x : Int} (h0 : 0 ≤ x) (h : x ≤ 1000000) : x.natAbs.log2 < 9000 := by
  have e : (2 : Nat) ^ 20 = 1048576 := by decide
  have h1 : x.natAbs < 2 ^ 20 := by omega
  by_cases hz : x.natAbs = 0
  · rw [hz]; decide
  · exact Nat.lt_trans ((Nat.log2_lt hz).mpr h1) (by decide)
theorem spread_ok {cf : Nat → List Tv → M Tv} {S : Sto} {ws rs : List Int} (h4 : ∀ S, cf 4 [.tup (ws.map Tv.int)] S = .ok (.bl (!(ws.any fun n => !(n == 0)))) S)
    (h3 : ∀ (S : Sto) (a c : Int × Int), a ∈ ws.zip rs → c ∈ ws.zip rs → cf 3 [pr a, pr c] S = .ok (.bl (decide (a.1 * c.2 < c.1 * a.2))) S)
    (h2 : ∀ (S : Sto) (m l : Int × Int), m ∈ ws.zip rs → l ∈ ws.zip rs → 0 < m.2 → 0 < l.2 → 0 < m.1 → 0 < l.1 → cf 2 [.int (m.1 * l.2), .int (m.2 * l.1)] S = .ok (.tup [.int (m.1 * l.2 / Int.gcd (m.1 * l.2) (m.2 * l.1)), .int (m.2 * l.1 / Int.gcd (m.1 * l.2) (m.2 * l.1))]) S)
    (hb : ∀ p ∈ ws.zip rs, (0 ≤ p.1 ∧ p.1 ≤ 1000) ∧ 0 ≤ p.2 ∧ p.2 ≤ 1000) (hl : ws.length ≤ 1000) (he : ws.length = rs.length) :
    ∃ t, runD cf xSpread [.tup (ws.map Tv.int), .tup (rs.map Tv.int)] S = .ok t S ∧ SpreadV ws rs t := by
  refine run_pure rfl ?_
  show (exs cf Fu xSpread.body [some (.tup (ws.map Tv.int)), some (.tup (rs.map Tv.int)), none, none, none, none, none] S).wp _
  unfold xSpread SpreadV
  rw [exs_cons]
  simp only [ex_if, t_call, w_call, w_cons, w_nil, w_var, List.getElem?_cons_zero, h4, wp_ok]
  have tb : ∀ (b : Bool) (S : Sto) (Q : Bool → Sto → Prop), (truthM (.bl b) S).wp Q = Q b S := fun b S Q => tru_bl
  rw [tb]
  cases hz : ws.any fun n => !(n == 0) with
  | false =>
    simp only [Bool.not_false, if_true]
    rw [exs_cons]
    have l2 : ∀ x y : Tv, (([x, y] : List Tv).length ≤ lim) = True := fun x y => by simp [lim]
    simp only [ex_ret, w_tup, w_cons, w_nil, w_int, l2, if_true]
    exact ⟨trivial, trivial⟩
  | true =>
    simp only [Bool.not_true, Bool.false_eq_true, if_false, exs_nil]
    rw [exs_cons]
    generalize hzs : ws.zip rs = zs at *
    have hzl : zs.length ≤ 1000 := by rw [← hzs, List.length_zip]; omega
    have l1 : ((zs.map pr).length ≤ lim) = True := by rw [List.length_map]; simp [lim]; omega
    have zt : zipT (ws.map Tv.int) (rs.map Tv.int) = zs.map pr := by rw [zipT_pr, hzs]
    have c1 : ∀ (e2 e4 e5 : Option Tv) (S : Sto), compL (([] : List (Nat × List Tv)) ++ []) (.tup [.v 3, .v 6]) (wipeE [some (.tup (ws.map Tv.int)), some (.tup (rs.map Tv.int)), e2, none, e4, e5, none] [3, 6]) (ev cf .nop).t
        (ev cf (.cmp .ne (.cmp .eq (.var 3) (.int 0)) (.cmp .eq (.var 6) (.int 0)))).v (zs.map pr) S = .ok (zs.map fun p => Tv.bl (mism p)) S := fun e2 e4 e5 S => by
      have z := comp_map (w := []) (tg := .tup [.v 3, .v 6]) (env := wipeE [some (.tup (ws.map Tv.int)), some (.tup (rs.map Tv.int)), e2, none, e4, e5, none] [3, 6]) (c := (ev cf .nop).t)
        (elt := (ev cf (.cmp .ne (.cmp .eq (.var 3) (.int 0)) (.cmp .eq (.var 6) (.int 0)))).v) (S := S) (fun _ => true) (fun t => match t with | .tup [.int a, .int b] => .bl (mism (a, b)) | t => t) rfl (zs.map pr) (fun t ht => by
          obtain ⟨p, _, rfl⟩ := List.mem_map.mp ht
          refine ⟨_, rfl, rfl, fun _ => evb ?_⟩
          simp only [w_cmp, w_var, wipeE, List.set_cons_zero, List.set_cons_succ, List.getElem?_cons_zero, List.getElem?_cons_succ, w_int, eq_int, ne_bl, opt_some, pr]
          refine ⟨?_, ?_⟩ <;> first | trivial | rfl)
      rw [List.append_nil, z, List.filter_eq_self.mpr (fun _ _ => rfl), List.map_map]
      rfl
    have e1 : ∀ S : Sto, primV .any S [.lst (zs.map fun p => Tv.bl (mism p))] = some (.bl (zs.any mism)) := fun S => by
      show ((some (zs.map fun p => Tv.bl (mism p))).bind fun ts => (blsOf ts).map fun bs => Tv.bl (bs.any id)) = _
      simp only [Option.bind_some, blsOf_map, Option.map_some, List.any_map]
      rfl
    simp only [ex_if, t_prim, w_prim, w_cons, w_nil, w_fz, w_comp, i_zip, w_var, List.getElem?_cons_zero, List.getElem?_cons_succ, srcOf, zt, l1, if_true, c1, wp_ok, e1, opt_some, tb]
    cases hmi : zs.any mism with
    | true =>
      simp only [if_true]
      rw [exs_cons]
      simp only [ex_ret, w_non]
      exact ⟨trivial, trivial⟩
    | false =>
      simp only [Bool.false_eq_true, if_false, exs_nil]
      rw [exs_cons]
      have l2 : ∀ x y : Tv, (([x, y] : List Tv).length ≤ lim) = True := fun x y => by simp [lim]
      generalize hsh : zs.filter (fun p => decide (0 < p.2)) = sh
      have c2 : ∀ (S : Sto), compL (([] : List (Nat × List Tv)) ++ []) (.tup [.v 3, .v 6]) (wipeE [some (.tup (ws.map Tv.int)), some (.tup (rs.map Tv.int)), none, none, none, none, none] [3, 6]) (ev cf (.cmp .gt (.var 6) (.int 0))).t
          (ev cf (.tup [(.var 3), (.var 6)])).v (zs.map pr) S = .ok (sh.map pr) S := fun S => by
        have z := comp_map (w := []) (tg := .tup [.v 3, .v 6]) (env := wipeE [some (.tup (ws.map Tv.int)), some (.tup (rs.map Tv.int)), none, none, none, none, none] [3, 6]) (c := (ev cf (.cmp .gt (.var 6) (.int 0))).t)
          (elt := (ev cf (.tup [(.var 3), (.var 6)])).v) (S := S) (fun t => match t with | .tup [.int a, .int b] => decide (0 < b) | _ => false) (fun t => t) rfl (zs.map pr) (fun t ht => by
            obtain ⟨p, _, rfl⟩ := List.mem_map.mp ht
            refine ⟨_, rfl, evtb ?_, fun _ => evb ?_⟩
            · simp only [t_cmp, w_var, wipeE, List.set_cons_zero, List.set_cons_succ, List.getElem?_cons_zero, List.getElem?_cons_succ, w_int, gt_int, opt_some, pr]
              refine ⟨?_, ?_⟩ <;> first | trivial | rfl
            · simp only [w_tup, w_cons, w_nil, w_var, wipeE, List.set_cons_zero, List.set_cons_succ, List.getElem?_cons_zero, List.getElem?_cons_succ, l2, if_true, pr]
              refine ⟨?_, ?_⟩ <;> first | trivial | rfl)
        rw [List.append_nil, z, List.map_id', List.filter_map, ← hsh]
        rfl
      have hmem : ∀ p ∈ sh, p ∈ zs ∧ 0 < p.2 ∧ 0 < p.1 := fun p hp => by
        rw [← hsh] at hp
        obtain ⟨h1, h2⟩ := List.mem_filter.mp hp
        have h2 : 0 < p.2 := of_decide_eq_true h2
        refine ⟨h1, h2, ?_⟩
        have q : mism p = false := by
          have := List.any_eq_false.mp hmi p h1
          simpa using this
        have hp1 := (hb p h1).1.1
        by_cases h0 : p.1 = 0
        · exfalso
          unfold mism at q
          rw [h0] at q
          have : (p.2 == 0) = false := by simp; omega
          rw [this] at q
          cases q
        · omega
      have hne : sh ≠ [] := fun e => by
        obtain ⟨n, hn, hn0⟩ := List.any_eq_true.mp hz
        obtain ⟨j, hj, rfl⟩ := List.mem_iff_getElem.mp hn
        have hjr : j < rs.length := by omega
        have hm : (ws[j], rs[j]) ∈ zs := by
          rw [← hzs]
          exact List.mem_iff_getElem.mpr ⟨j, by rw [List.length_zip]; omega, by simp⟩
        have q : mism (ws[j], rs[j]) = false := by
          have := List.any_eq_false.mp hmi _ hm
          simpa using this
        have hr : 0 < rs[j] := by
          have h0 := (hb _ hm).2.1
          simp only at h0
          by_cases h1 : rs[j] = 0
          · exfalso
            have : (ws[j] == 0) = false := by simpa using hn0
            unfold mism at q
            simp only [h1, this] at q
            cases q
          · omega
        have : (ws[j], rs[j]) ∈ sh := by
          rw [← hsh]
          exact List.mem_filter.mpr ⟨hm, decide_eq_true hr⟩
        rw [e] at this
        cases this
      obtain ⟨s0, sr, hs0⟩ : ∃ s0 sr, sh = s0 :: sr := by
        cases hsx : sh with
        | nil => exact absurd hsx hne
        | cons a b => exact ⟨a, b, rfl⟩
      simp only [ex_asg, w_fz, w_comp, i_zip, w_var, List.getElem?_cons_zero, List.getElem?_cons_succ, srcOf, opt_some, zt, l1, if_true, c2, wp_ok, setTg, List.set_cons_zero, List.set_cons_succ]
      rw [exs_cons]
      have ix0 : ∀ S : Sto, ixV S (.lst (sh.map pr)) (.int 0) = some (pr s0) := fun S => by
        show L2.atI (sh.map pr) 0 = _
        rw [hs0]
        exact at0
      simp only [ex_asg, w_tup, w_cons, w_nil, w_ix, w_int, w_var, List.getElem?_cons_zero, List.getElem?_cons_succ, opt_some, ix0, l2, if_true, setTg, setTgs, List.set_cons_zero, List.set_cons_succ]
      rw [exs_cons]
      simp only [ex_for, i_seq, w_var, List.getElem?_cons_zero, List.getElem?_cons_succ, srcOf, opt_some]
      refine for_inv (fun ts env S' => S' = S ∧ ∃ (dn r : List (Int × Int)) (m l : Int × Int) (e3 e6 : Option Tv), ts = r.map pr ∧ sh = dn ++ r ∧ env = [some (.tup (ws.map Tv.int)), some (.tup (rs.map Tv.int)), some (.lst (sh.map pr)), e3, some (pr m), some (pr l), e6] ∧ m ∈ sh ∧ l ∈ sh ∧ ∀ s ∈ dn, leC s m ∧ leC l s)
        (fun _ _ _ _ => rfl) ?_ ?_ _ _ _ ⟨rfl, [], sh, s0, s0, none, none, rfl, rfl, rfl, by rw [hs0]; exact List.mem_cons_self, by rw [hs0]; exact List.mem_cons_self, fun s hs => by cases hs⟩
      · rintro t r0 env S' ⟨rfl, dn, r, m, l, e3, e6, hr, hd, rfl, hm, hl', hall⟩
        cases r with
        | nil => cases hr
        | cons o r =>
          simp only [List.map_cons, List.cons.injEq] at hr
          obtain ⟨rfl, rfl⟩ := hr
          have ho : o ∈ sh := by rw [hd]; simp
          refine ⟨_, rfl, ?_⟩
          simp only [List.set_cons_zero, List.set_cons_succ]
          rw [exs_cons]
          have ite3 : ∀ (k : Bool) (a b : Tv) (S : Sto) (Q : Tv → Sto → Prop), (if k = true then Q a S else Q b S) = Q (if k = true then a else b) S := fun k a b S Q => by cases k <;> rfl
          simp only [ex_asg, w_ite, t_call, w_call, w_cons, w_nil, w_var, List.getElem?_cons_zero, List.getElem?_cons_succ, h3 _ m o (hmem m hm).1 (hmem o ho).1, wp_ok, tb, setTg, List.set_cons_zero, List.set_cons_succ]
          have key : ∀ (D : Po), (∀ (env : Env) (S'' : Sto), (S'' = S' ∧ ∃ (dn r' : List (Int × Int)) (m l : Int × Int) (e3 e6 : Option Tv), r.map pr = r'.map pr ∧ sh = dn ++ r' ∧ env = [some (.tup (ws.map Tv.int)), some (.tup (rs.map Tv.int)), some (.lst (sh.map pr)), e3, some (pr m), some (pr l), e6] ∧ m ∈ sh ∧ l ∈ sh ∧ ∀ s ∈ dn, leC s m ∧ leC l s) → D.nx env S'') → ∀ (m' : Int × Int), m' ∈ sh → (∀ s ∈ dn ++ [o], leC s m') → (exs cf Fu [.asg (.v 5) (.ite (.call 3 [(.var 3), (.var 5)]) (.var 3) (.var 5))] [some (.tup (ws.map Tv.int)), some (.tup (rs.map Tv.int)), some (.lst (sh.map pr)), some (pr o), some (pr m'), some (pr l), e6] S').wp D := by
            intro D hD m' hm' hall'
            have pos : ∀ s ∈ sh, 0 < s.2 := fun s hs => (hmem s hs).2.1
            have sub : ∀ s ∈ dn, s ∈ sh := fun s hs => by rw [hd]; exact List.mem_append_left _ hs
            rw [exs_cons]
            simp only [ex_asg, w_ite, t_call, w_call, w_cons, w_nil, w_var, List.getElem?_cons_zero, List.getElem?_cons_succ, h3 _ o l (hmem o ho).1 (hmem l hl').1, wp_ok, tb, setTg, List.set_cons_zero, List.set_cons_succ, exs_nil]
            by_cases hc : o.1 * l.2 < l.1 * o.2
            · rw [if_pos (decide_eq_true hc)]
              refine hD _ _ ⟨?_, dn ++ [o], r, m', o, _, _, rfl, by rw [hd]; simp, rfl, hm', ho, fun s hs => ⟨hall' s hs, ?_⟩⟩
              · first | trivial | rfl
              · rcases List.mem_append.mp hs with q | q
                · exact leC_trans (pos o ho) (pos l hl') (pos s (sub s q)) (Int.le_of_lt hc) (hall s q).2
                · rw [List.mem_singleton.mp q]; exact leC_refl o
            · rw [if_neg (by simpa using hc)]
              refine hD _ _ ⟨?_, dn ++ [o], r, m', l, _, _, rfl, by rw [hd]; simp, rfl, hm', hl', fun s hs => ⟨hall' s hs, ?_⟩⟩
              · first | trivial | rfl
              · rcases List.mem_append.mp hs with q | q
                · exact (hall s q).2
                · rw [List.mem_singleton.mp q]; exact Int.not_lt.mp hc
          have pos : ∀ s ∈ sh, 0 < s.2 := fun s hs => (hmem s hs).2.1
          have sub : ∀ s ∈ dn, s ∈ sh := fun s hs => by rw [hd]; exact List.mem_append_left _ hs
          by_cases hc : m.1 * o.2 < o.1 * m.2
          · rw [if_pos (decide_eq_true hc)]
            refine key _ (fun _ _ h => h) o ho fun s hs => ?_
            rcases List.mem_append.mp hs with q | q
            · exact leC_trans (pos s (sub s q)) (pos m hm) (pos o ho) (hall s q).1 (Int.le_of_lt hc)
            · rw [List.mem_singleton.mp q]; exact leC_refl o
          · rw [if_neg (by simpa using hc)]
            refine key _ (fun _ _ h => h) m hm fun s hs => ?_
            rcases List.mem_append.mp hs with q | q
            · exact (hall s q).1
            · rw [List.mem_singleton.mp q]; exact Int.not_lt.mp hc
      · rintro env S' ⟨rfl, dn, r, m, l, e3, e6, hr, hd, rfl, hm, hl', hall⟩
        cases r with
        | cons o r => cases hr
        | nil =>
          dsimp only
          rw [exs_cons]
          have i0 : ∀ (S : Sto) (p : Int × Int), ixV S (pr p) (.int 0) = some (.int p.1) := fun S p => show L2.atI [Tv.int p.1, Tv.int p.2] 0 = _ from at0
          have i1 : ∀ (S : Sto) (p : Int × Int), ixV S (pr p) (.int 1) = some (.int p.2) := fun S p => show L2.atI [Tv.int p.1, Tv.int p.2] 1 = _ from at1
          have small : ∀ p ∈ sh, p.1.natAbs.log2 < 9000 ∧ p.2.natAbs.log2 < 9000 := fun p hp => by
            obtain ⟨⟨a1, a2⟩, a3, a4⟩ := hb p (hmem p hp).1
            exact ⟨log_small a1 (by omega), log_small a3 (by omega)⟩
          have m1 : ∀ S, binV .mul S (.int m.1) (.int l.2) = some (.int (m.1 * l.2)) := fun S => mul_int (by have := small m hm; have := small l hl'; omega)
          have m2 : ∀ S, binV .mul S (.int m.2) (.int l.1) = some (.int (m.2 * l.1)) := fun S => mul_int (by have := small m hm; have := small l hl'; omega)
          simp only [ex_ret, w_call, w_cons, w_nil, w_bin, w_ix, w_var, w_int, List.getElem?_cons_zero, List.getElem?_cons_succ, i0, i1, opt_some, m1, m2, h2 _ m l (hmem m hm).1 (hmem l hl').1 (hmem m hm).2.1 (hmem l hl').2.1 (hmem m hm).2.2 (hmem l hl').2.2, wp_ok]
          refine ⟨trivial, m, l, (hmem m hm).1, (hmem l hl').1, (hmem m hm).2.1, (hmem l hl').2.1, fun s hs hs2 => ?_, rfl⟩
          have : s ∈ dn := by
            have q : s ∈ sh := by rw [← hsh]; exact List.mem_filter.mpr ⟨hs, decide_eq_true hs2⟩
            rw [hd, List.append_nil] at q
            exact q
          exact hall s this
end Mp
namespace Mp
def xLawDivisor : Df := ⟨5, 1,
  [
    .asg (.v 1) (.int 0),
    .forS (.v 2) (.seq (.var 0))
      [
        .asg (.v 3) (.prim .abs [(.var 2)]),
        .forS (.v 4) (.rng (.int 2000))
          [
            .ifS (.cmp .eq (.var 3) (.int 0))
              [
                .brk]
              [],
            .asg (.tup [(.v 3), (.v 1)]) (.tup [(.bin .mod (.prim .int [(.var 1)]) (.var 3)), (.var 3)])]],
    .ret (.var 1)]⟩
/-- the law's own steps of Euclid, at most so many turns -/
theorem euclid2 {cf : Nat → List Tv → M Tv} {S : Sto} {D : Po} {t0 t2 e4 : Option Tv} {o f : Nat} (hl : gmu o f < 2000) (h : ∀ e3 e4 : Option Tv, D.nx [t0, some (.int (Nat.gcd o f)), t2, e3, e4] S) :
    (ex cf Fu (.forS (.v 4) (.rng (.int 2000)) [.ifS (.cmp .eq (.var 3) (.int 0)) [.brk] [], .asg (.tup [(.v 3), (.v 1)]) (.tup [(.bin .mod (.prim .int [(.var 1)]) (.var 3)), (.var 3)])]) [t0, some (.int f), t2, some (.int o), e4] S).wp D := by
  have rl : ∀ (m : Nat) (j : Int), (rngT j m).length = m := fun m j => rngT_len'
  simp only [ex_for, i_rng, w_int]
  rw [if_pos (by decide)]
  refine for_inv (fun ts env S' => S' = S ∧ ∃ (o' f' : Nat) (e4 : Option Tv), env = [t0, some (.int f'), t2, some (.int o'), e4] ∧ gmu o' f' < ts.length + (if o' = 0 then 1 else 0) ∧ Nat.gcd o' f' = Nat.gcd o f) (fun _ _ _ _ => rfl) ?_ ?_ _ _ _ ⟨rfl, o, f, e4, rfl, ?_, rfl⟩
  · rintro t r env S' ⟨rfl, o', f', e4, rfl, hk, hg⟩
    refine ⟨_, rfl, ?_⟩
    simp only [List.set_cons_zero, List.set_cons_succ]
    rw [exs_cons]
    simp only [ex_if, t_cmp, w_var, List.getElem?_cons_zero, List.getElem?_cons_succ, w_int, eq_int, opt_some]
    by_cases ho : o' = 0
    · subst ho
      rw [if_pos (by simp), exs_cons]
      simp only [ex_brk]
      have := h (some (.int (0 : Nat))) (some t)
      rw [← hg, Nat.gcd_zero_left] at this
      exact this
    · rw [if_neg (by simp; omega), exs_nil]
      dsimp only
      rw [exs_cons]
      have ho' : (0 : Int) < (o' : Int) := by omega
      have l2 : ((List.length [Tv.int ((f' : Int) % (o' : Int)), Tv.int (o' : Int)]) ≤ lim) = True := by simp [lim]
      simp only [ex_asg, w_tup, w_cons, w_nil, w_bin, w_prim, int_int, w_var, List.getElem?_cons_zero, List.getElem?_cons_succ, mod_int ho', opt_some, l2, if_true, setTg, setTgs, List.set_cons_zero, List.set_cons_succ, exs_nil]
      refine ⟨?_, f' % o', o', _, rfl, ?_, ?_⟩
      · first | trivial | rfl
      · have := gmu_step (o := o') (f := f') (by omega)
        rw [if_neg ho] at hk
        simp only [List.length_cons] at hk
        split <;> omega
      · rw [← hg, ← Nat.gcd_rec]
  · rintro env S' ⟨rfl, o', f', e4, rfl, hk, hg⟩
    have ho : o' = 0 := by
      by_cases ho : o' = 0
      · exact ho
      · rw [if_neg ho] at hk
        simp at hk
    subst ho
    have := h (some (.int (0 : Nat))) e4
    rw [← hg, Nat.gcd_zero_left] at this
    exact this
  · show gmu o f < (rngT 0 (2000 : Int).toNat).length + _
    rw [rl]
    have : (2000 : Int).toNat = 2000 := rfl
    omega
theorem lawDivisor_src {cf : Nat → List Tv → M Tv} {S : Sto} {ns : List Int} {B : Nat} {src : Tv} (hs : srcOf S src = some (ns.map Tv.int, [])) (hB : ∀ n ∈ ns, ∀ f : Nat, f ≤ B → gmu n.natAbs f < 2000) (hb : ∀ n ∈ ns, n.natAbs ≤ B) : runD cf xLawDivisor [src] S = .ok (.int (gcdF 0 ns)) S := by
  obtain ⟨t, e, q⟩ := run_pure (cf := cf) (d := xLawDivisor) (as := [src]) (S := S) (Q := fun t => t = .int (gcdF 0 ns)) rfl (by
    show (exs cf Fu xLawDivisor.body [some (src), none, none, none, none] S).wp _
    unfold xLawDivisor
    rw [exs_cons]
    simp only [ex_asg, w_int, setTg, List.set_cons_zero, List.set_cons_succ]
    rw [exs_cons, ex_for]
    simp only [i_seq, w_var, List.getElem?_cons_zero, hs, opt_some]
    refine for_inv (fun ts env S' => S' = S ∧ ∃ (r : List Int) (f : Nat) (e2 e3 e4 : Option Tv), ts = r.map Tv.int ∧ env = [some (src), some (.int f), e2, e3, e4] ∧ gcdF f r = gcdF 0 ns ∧ f ≤ B ∧ ∀ n ∈ r, n ∈ ns) (fun _ _ _ _ => rfl) ?_ ?_ _ _ _ ⟨rfl, ns, 0, none, none, none, rfl, rfl, rfl, Nat.zero_le _, fun _ h => h⟩
    · rintro t r env S' ⟨rfl, rr, f, e2, e3, e4, hr, rfl, hg, hf, hm⟩
      cases rr with
      | nil => cases hr
      | cons n rr =>
        simp only [List.map_cons, List.cons.injEq] at hr
        obtain ⟨rfl, rfl⟩ := hr
        refine ⟨_, rfl, ?_⟩
        simp only [List.set_cons_zero, List.set_cons_succ]
        rw [exs_cons]
        simp only [ex_asg, w_prim, w_cons, w_nil, w_var, List.getElem?_cons_zero, List.getElem?_cons_succ, abs_int, opt_some, setTg, List.set_cons_zero, List.set_cons_succ, abs_nat]
        rw [exs_cons]
        refine euclid2 (hB n (hm n List.mem_cons_self) f hf) fun e3 e4 => ?_
        simp only [exs_nil]
        refine ⟨?_, rr, Nat.gcd n.natAbs f, _, e3, e4, rfl, rfl, hg, ?_, fun m h => hm m (List.mem_cons_of_mem _ h)⟩
        · first | trivial | rfl
        · by_cases hz : n.natAbs = 0
          · rw [hz, Nat.gcd_zero_left]; exact hf
          · exact Nat.le_trans (Nat.gcd_le_left _ (by omega)) (hb n (hm n List.mem_cons_self))
    · rintro env S' ⟨rfl, rr, f, e2, e3, e4, hr, rfl, hg, hf, hm⟩
      cases rr with
      | cons n rr => cases hr
      | nil =>
        dsimp only
        rw [exs_cons]
        simp only [ex_ret, w_var, List.getElem?_cons_zero, List.getElem?_cons_succ]
        exact ⟨trivial, by rw [← hg]; rfl⟩)
  rw [e, q]
theorem lawDivisor_ok {cf : Nat → List Tv → M Tv} {S : Sto} {ns : List Int} {B : Nat} (hB : ∀ n ∈ ns, ∀ f : Nat, f ≤ B → gmu n.natAbs f < 2000) (hb : ∀ n ∈ ns, n.natAbs ≤ B) : runD cf xLawDivisor [.tup (ns.map Tv.int)] S = .ok (.int (gcdF 0 ns)) S := lawDivisor_src rfl hB hb
end Mp
namespace Mp
def xLowest : Nat → Df := fun k => ⟨3, 1,
  [
    .asg (.v 1) (.call k [(.var 0)]),
    .ret (.ite (.cmp .gt (.var 1) (.int 0)) (.prim .tuple [(.fz (.comp [2] (.bin .fdiv (.var 2) (.var 1)) (.v 2) (.seq (.var 0)) .nop))]) (.prim .tuple [(.var 0)]))]⟩
theorem lowest_ok {cf : Nat → List Tv → M Tv} {k : Nat} {S : Sto} {ns : List Int} {g : Nat} (hk : ∀ S, cf k [.tup (ns.map Tv.int)] S = .ok (.int g) S) (hz : 0 < g) (hl : g.log2 < 9000) (hn : ns.length ≤ 1000) :
    runD cf (xLowest k) [.tup (ns.map Tv.int)] S = .ok (.tup (ns.map fun n => .int (n / g))) S := by
  obtain ⟨t, e, q⟩ := run_pure (cf := cf) (d := xLowest k) (as := [.tup (ns.map Tv.int)]) (S := S) (Q := fun t => t = .tup (ns.map fun n => .int (n / g))) rfl (by
    show (exs cf Fu (xLowest k).body [some (.tup (ns.map Tv.int)), none, none] S).wp _
    unfold xLowest
    rw [exs_cons]
    simp only [ex_asg, w_call, w_cons, w_nil, w_var, List.getElem?_cons_zero, hk, wp_ok, setTg, List.set_cons_zero, List.set_cons_succ]
    rw [exs_cons]
    have hp : (0 : Int) < (g : Int) := by omega
    have c1 : compL ([] : List (Nat × List Tv)) (.v 2) (wipeE [some (.tup (ns.map Tv.int)), some (.int g), none] [2]) (ev cf .nop).t (ev cf (.bin .fdiv (.var 2) (.var 1))).v (ns.map Tv.int) S = .ok (ns.map fun n => Tv.int (n / g)) S := by
      have z := comp_map (w := []) (tg := .v 2) (env := wipeE [some (.tup (ns.map Tv.int)), some (.int g), none] [2]) (c := (ev cf .nop).t) (elt := (ev cf (.bin .fdiv (.var 2) (.var 1))).v) (S := S) (fun _ => true) (fun t => match t with | .int i => .int (i / g) | t => t) rfl (ns.map Tv.int) (fun t ht => by
        obtain ⟨m, _, rfl⟩ := List.mem_map.mp ht
        refine ⟨_, rfl, rfl, fun _ => evb ?_⟩
        simp only [w_bin, w_var, wipeE, List.set_cons_zero, List.set_cons_succ, List.getElem?_cons_zero, List.getElem?_cons_succ, fdiv_int hp hl, opt_some]
        refine ⟨?_, ?_⟩ <;> first | trivial | rfl)
      rw [z, List.filter_eq_self.mpr (fun _ _ => rfl), List.map_map]
      rfl
    have l1 : ((ns.map Tv.int).length ≤ lim) = True := by rw [List.length_map]; simp [lim]; omega
    have tp : ∀ (S : Sto) (xs : List Tv), primV .tuple S [.lst xs] = some (.tup xs) := fun S xs => rfl
    simp only [ex_ret, w_ite, t_cmp, w_var, w_int, List.getElem?_cons_zero, List.getElem?_cons_succ, gt_int, opt_some]
    rw [if_pos (decide_eq_true hp)]
    simp only [w_prim, w_cons, w_nil, w_fz, w_comp, i_seq, w_var, List.getElem?_cons_zero, srcOf, opt_some, l1, if_true, c1, wp_ok, tp]
    refine ⟨?_, ?_⟩ <;> first | trivial | rfl)
  rw [e, q]
/-! ### equal quotients have one lowest form -/
theorem lowest_nat {a b c d : Nat} (ha : 0 < a) (hb : 0 < b) (hc : 0 < c) (hd : 0 < d) (h : a * d = c * b) : a / Nat.gcd a b = c / Nat.gcd c d ∧ b / Nat.gcd a b = d / Nat.gcd c d := by
  have g1 : 0 < Nat.gcd a b := Nat.gcd_pos_of_pos_left _ ha
  have g2 : 0 < Nat.gcd c d := Nat.gcd_pos_of_pos_left _ hc
  have co1 := Nat.coprime_div_gcd_div_gcd g1
  have co2 := Nat.coprime_div_gcd_div_gcd g2
  have ea : a / Nat.gcd a b * Nat.gcd a b = a := Nat.div_mul_cancel (Nat.gcd_dvd_left a b)
  have eb : b / Nat.gcd a b * Nat.gcd a b = b := Nat.div_mul_cancel (Nat.gcd_dvd_right a b)
  have ec : c / Nat.gcd c d * Nat.gcd c d = c := Nat.div_mul_cancel (Nat.gcd_dvd_left c d)
  have ed : d / Nat.gcd c d * Nat.gcd c d = d := Nat.div_mul_cancel (Nat.gcd_dvd_right c d)
  generalize a / Nat.gcd a b = a' at *
  generalize b / Nat.gcd a b = b' at *
  generalize c / Nat.gcd c d = c' at *
  generalize d / Nat.gcd c d = d' at *
  generalize Nat.gcd a b = g at *
  generalize Nat.gcd c d = k at *
  have h2 : a' * d' = c' * b' := by
    have e : (a' * d') * (g * k) = (c' * b') * (g * k) := by
      calc (a' * d') * (g * k) = (a' * g) * (d' * k) := by rw [Nat.mul_mul_mul_comm]
        _ = a * d := by rw [ea, ed]
        _ = c * b := h
        _ = (c' * k) * (b' * g) := by rw [ec, eb]
        _ = (c' * b') * (g * k) := by rw [Nat.mul_mul_mul_comm, Nat.mul_comm k g]
    exact Nat.eq_of_mul_eq_mul_right (Nat.mul_pos g1 g2) e
  have d1 : a' ∣ c' := co1.dvd_of_dvd_mul_right (by rw [← h2]; exact Nat.dvd_mul_right _ _)
  have d2 : c' ∣ a' := co2.dvd_of_dvd_mul_right (by rw [h2]; exact Nat.dvd_mul_right _ _)
  have e1 : a' = c' := Nat.dvd_antisymm d1 d2
  have c0 : 0 < c' := by
    rcases Nat.eq_zero_or_pos c' with z | z
    · rw [z, Nat.zero_mul] at ec; omega
    · exact z
  refine ⟨e1, ?_⟩
  rw [e1] at h2
  exact (Nat.eq_of_mul_eq_mul_left c0 h2).symm
theorem lowest_eq {a b c d : Int} (hb : 0 < b) (hd : 0 < d) (ha : 0 < a) (hc : 0 < c) (h : a * d = c * b) : a / Int.gcd a b = c / Int.gcd c d ∧ b / Int.gcd a b = d / Int.gcd c d := by
  obtain ⟨a, rfl⟩ := Int.eq_ofNat_of_zero_le (Int.le_of_lt ha)
  obtain ⟨b, rfl⟩ := Int.eq_ofNat_of_zero_le (Int.le_of_lt hb)
  obtain ⟨c, rfl⟩ := Int.eq_ofNat_of_zero_le (Int.le_of_lt hc)
  obtain ⟨d, rfl⟩ := Int.eq_ofNat_of_zero_le (Int.le_of_lt hd)
  obtain ⟨e1, e2⟩ := lowest_nat (a := a) (b := b) (c := c) (d := d) (by omega) (by omega) (by omega) (by omega) (by exact_mod_cast h)
  show (a : Int) / ((Nat.gcd a b : Nat) : Int) = (c : Int) / ((Nat.gcd c d : Nat) : Int) ∧ (b : Int) / ((Nat.gcd a b : Nat) : Int) = (d : Int) / ((Nat.gcd c d : Nat) : Int)
  exact ⟨by exact_mod_cast e1, by exact_mod_cast e2⟩
end Mp
namespace Mp
def xLawSpread : Df := ⟨9, 2,
  [
    .ifS (.cmp .eq (.fz (.comp [7] (.int 1) (.v 7) (.seq (.var 0)) (.cmp .ne (.var 7) (.int 0)))) (.fz (.disp [])))
      [
        .ret (.tup [(.int 0), (.int 1)])]
      [],
    .ifS (.cmp .ne (.fz (.comp [7, 8] (.int 1) (.tup [(.v 7), (.v 8)]) (.zip (.var 0) (.var 1)) (.cmp .ne (.cmp .eq (.var 7) (.int 0)) (.cmp .eq (.var 8) (.int 0))))) (.fz (.disp [])))
      [
        .ret (.tup [])]
      [],
    .asg (.v 2) (.tup [(.int 0), (.int 1)]),
    .forS (.tup [(.v 3), (.v 4)]) (.zip (.var 0) (.var 1))
      [
        .forS (.tup [(.v 5), (.v 6)]) (.zip (.var 0) (.var 1))
          [
            .ifS (.bop true [(.cmp .gt (.var 4) (.int 0)), (.cmp .gt (.var 6) (.int 0)), (.cmp .gt (.bin .mul (.bin .mul (.var 3) (.var 6)) (.ix (.var 2) (.int 1))) (.bin .mul (.bin .mul (.ix (.var 2) (.int 0)) (.var 4)) (.var 5)))])
              [
                .asg (.v 2) (.tup [(.bin .mul (.var 3) (.var 6)), (.bin .mul (.var 4) (.var 5))])]
              []]],
    .ret (.call 11 [(.var 2)])]⟩
theorem log_30 {x : Int} (h0 : 0 ≤ x) (h : x ≤ 1000000000) : x.natAbs.log2 < 9000 := by
  have e : (2 : Nat) ^ 30 = 1073741824 := by decide
  have h1 : x.natAbs < 2 ^ 30 := by omega
  by_cases hz : x.natAbs = 0
  · rw [hz]; decide
  · exact Nat.lt_trans ((Nat.log2_lt hz).mpr h1) (by decide)
theorem log_mul {x y : Int} (hx : 0 ≤ x ∧ x ≤ 1000) (hy : 0 ≤ y ∧ y ≤ 1000) : (x * y).natAbs.log2 < 9000 :=
  log_small (Int.mul_nonneg hx.1 hy.1) (Int.le_trans (Int.mul_le_mul hx.2 hy.2 hy.1 (by decide)) (by decide))
/-- a list of ones against the empty list -/
theorem ones_eq {S : Sto} {α : Type} (xs : List α) : cmpV .eq S (.lst (xs.map fun _ => Tv.int 1)) (.lst []) = some xs.isEmpty := by
  have d : Tv.dOks 15 (xs.map fun _ => Tv.int 1) = true := by
    have := dOks_ints 15 (xs.map fun _ => (1 : Int))
    rwa [List.map_map] at this
  cases xs with
  | nil => simp [cmpV, eqS, eqS0, thaw, Tv.dOk, Tv.dOks, Tv.eqb, Tv.eqbs]
  | cons x r =>
    simp only [List.map_cons] at d
    have d2 : Tv.dOks 15 (r.map fun _ => Tv.int 1) = true := (by simpa [Tv.dOks] using d : _ ∧ Tv.dOks 15 (r.map fun _ => Tv.int 1) = true).2
    simp [cmpV, eqS, eqS0, thaw, Tv.dOk, Tv.dOks, Tv.eqb, Tv.eqbs]
    first | exact d2 | exact ⟨rfl, d2⟩ | simpa using d2
theorem ones_ne {S : Sto} {α : Type} (xs : List α) : cmpV .ne S (.lst (xs.map fun _ => Tv.int 1)) (.lst []) = some (!xs.isEmpty) := by
  have z := ones_eq (S := S) xs
  have e : cmpV .ne S (.lst (xs.map fun _ => Tv.int 1)) (.lst []) = (cmpV .eq S (.lst (xs.map fun _ => Tv.int 1)) (.lst [])).map (!·) := by simp only [cmpV]
  rw [e, z]
  rfl
/-- what the law's own spread tells -/
def LawSpreadV (ws rs : List Int) (t : Tv) : Prop :=
  if (ws.any fun n => !(n == 0)) = false then t = .tup [.int 0, .int 1] else if (ws.zip rs).any mism = true then t = .tup [] else
    ∃ i j : Int × Int, i ∈ ws.zip rs ∧ j ∈ ws.zip rs ∧ 0 < i.2 ∧ 0 < j.2 ∧ (∀ s ∈ ws.zip rs, ∀ u ∈ ws.zip rs, 0 < s.2 → 0 < u.2 → leC (s.1 * u.2, s.2 * u.1) (i.1 * j.2, i.2 * j.1)) ∧
      t = .tup [.int (i.1 * j.2 / Int.gcd (i.1 * j.2) (i.2 * j.1)), .int (i.2 * j.1 / Int.gcd (i.1 * j.2) (i.2 * j.1))]
theorem filter_empty {α : Type} (p : α → Bool) : ∀ xs : List α, (xs.filter p).isEmpty = !(xs.any p)
  | [] => rfl
  | x :: r => by
    rw [List.filter_cons, List.any_cons]
    cases h : p x with
    | true => simp
    | false => simp [filter_empty p r]
theorem lawSpread_ok {cf : Nat → List Tv → M Tv} {S : Sto} {ws rs : List Int}
    (h11 : ∀ (S : Sto) (i j : Int × Int), i ∈ ws.zip rs → j ∈ ws.zip rs → 0 < i.2 → 0 < j.2 → 0 < i.1 → 0 < j.1 → cf 11 [.tup [.int (i.1 * j.2), .int (i.2 * j.1)]] S = .ok (.tup [.int (i.1 * j.2 / Int.gcd (i.1 * j.2) (i.2 * j.1)), .int (i.2 * j.1 / Int.gcd (i.1 * j.2) (i.2 * j.1))]) S)
    (hb : ∀ p ∈ ws.zip rs, (0 ≤ p.1 ∧ p.1 ≤ 1000) ∧ 0 ≤ p.2 ∧ p.2 ≤ 1000) (hl : ws.length ≤ 1000) (he : ws.length = rs.length) :
    ∃ t, runD cf xLawSpread [.tup (ws.map Tv.int), .tup (rs.map Tv.int)] S = .ok t S ∧ LawSpreadV ws rs t := by
  refine run_pure rfl ?_
  show (exs cf Fu xLawSpread.body [some (.tup (ws.map Tv.int)), some (.tup (rs.map Tv.int)), none, none, none, none, none, none, none] S).wp _
  unfold xLawSpread LawSpreadV
  rw [exs_cons]
  have lw : ((ws.map Tv.int).length ≤ lim) = True := by rw [List.length_map]; simp [lim]; omega
  have l2 : ∀ x y : Tv, (([x, y] : List Tv).length ≤ lim) = True := fun x y => by simp [lim]
  have c1 : compL ([] : List (Nat × List Tv)) (.v 7) (wipeE [some (.tup (ws.map Tv.int)), some (.tup (rs.map Tv.int)), none, none, none, none, none, none, none] [7]) (ev cf (.cmp .ne (.var 7) (.int 0))).t (ev cf (.int 1)).v (ws.map Tv.int) S = .ok ((ws.filter fun n => !(n == 0)).map fun _ => Tv.int 1) S := by
    have z := comp_map (w := []) (tg := .v 7) (env := wipeE [some (.tup (ws.map Tv.int)), some (.tup (rs.map Tv.int)), none, none, none, none, none, none, none] [7]) (c := (ev cf (.cmp .ne (.var 7) (.int 0))).t) (elt := (ev cf (.int 1)).v) (S := S)
      (fun t => match t with | .int i => !(i == 0) | _ => false) (fun _ => .int 1) rfl (ws.map Tv.int) (fun t ht => by
        obtain ⟨m, _, rfl⟩ := List.mem_map.mp ht
        refine ⟨_, rfl, evtb ?_, fun _ => rfl⟩
        simp only [t_cmp, w_var, wipeE, List.set_cons_zero, List.set_cons_succ, List.getElem?_cons_zero, List.getElem?_cons_succ, w_int, ne_int, opt_some]
        refine ⟨?_, ?_⟩ <;> first | trivial | rfl)
    rw [z, List.filter_map, List.map_map]
    rfl
  simp only [ex_if, t_cmp, w_fz, w_comp, w_disp, w_nil, i_seq, w_var, List.getElem?_cons_zero, srcOf, opt_some, lw, if_true, c1, wp_ok, List.length_nil, lim_0, ones_eq, filter_empty]
  cases hz : ws.any fun n => !(n == 0) with
  | false =>
    simp only [Bool.not_false, if_true]
    rw [exs_cons]
    simp only [ex_ret, w_tup, w_cons, w_nil, w_int, l2, if_true]
    exact ⟨trivial, trivial⟩
  | true =>
    simp only [Bool.not_true, Bool.false_eq_true, if_false, exs_nil]
    rw [exs_cons]
    generalize hzs : ws.zip rs = zs at *
    have hzl : zs.length ≤ 1000 := by rw [← hzs, List.length_zip]; omega
    have l1 : ((zs.map pr).length ≤ lim) = True := by rw [List.length_map]; simp [lim]; omega
    have zt : zipT (ws.map Tv.int) (rs.map Tv.int) = zs.map pr := by rw [zipT_pr, hzs]
    have c2 : compL (([] : List (Nat × List Tv)) ++ []) (.tup [.v 7, .v 8]) (wipeE [some (.tup (ws.map Tv.int)), some (.tup (rs.map Tv.int)), none, none, none, none, none, none, none] [7, 8]) (ev cf (.cmp .ne (.cmp .eq (.var 7) (.int 0)) (.cmp .eq (.var 8) (.int 0)))).t
        (ev cf (.int 1)).v (zs.map pr) S = .ok ((zs.filter mism).map fun _ => Tv.int 1) S := by
      have z := comp_map (w := []) (tg := .tup [.v 7, .v 8]) (env := wipeE [some (.tup (ws.map Tv.int)), some (.tup (rs.map Tv.int)), none, none, none, none, none, none, none] [7, 8]) (c := (ev cf (.cmp .ne (.cmp .eq (.var 7) (.int 0)) (.cmp .eq (.var 8) (.int 0)))).t) (elt := (ev cf (.int 1)).v) (S := S)
        (fun t => match t with | .tup [.int a, .int b] => mism (a, b) | _ => false) (fun _ => .int 1) rfl (zs.map pr) (fun t ht => by
          obtain ⟨p, _, rfl⟩ := List.mem_map.mp ht
          refine ⟨_, rfl, evtb ?_, fun _ => rfl⟩
          simp only [t_cmp, w_cmp, w_var, wipeE, List.set_cons_zero, List.set_cons_succ, List.getElem?_cons_zero, List.getElem?_cons_succ, w_int, eq_int, ne_bl, opt_some, pr]
          refine ⟨?_, ?_⟩ <;> first | trivial | rfl)
      rw [List.append_nil, z, List.filter_map, List.map_map]
      rfl
    simp only [ex_if, t_cmp, w_fz, w_comp, w_disp, w_nil, i_zip, w_var, List.getElem?_cons_zero, List.getElem?_cons_succ, srcOf, opt_some, zt, l1, if_true, c2, wp_ok, List.length_nil, lim_0, ones_ne, filter_empty, Bool.not_not]
    cases hmi : zs.any mism with
    | true =>
      simp only [if_true]
      rw [exs_cons]
      simp only [ex_ret, w_tup, w_nil, List.length_nil, lim_0, if_true]
      exact ⟨trivial, trivial⟩
    | false =>
      simp only [Bool.false_eq_true, if_false, exs_nil]
      rw [exs_cons]
      simp only [ex_asg, w_tup, w_cons, w_nil, w_int, l2, if_true, setTg, List.set_cons_zero, List.set_cons_succ]
      rw [exs_cons, ex_for]
      simp only [i_zip, w_var, List.getElem?_cons_zero, List.getElem?_cons_succ, srcOf, zt]
      have posz : ∀ p ∈ zs, 0 < p.2 → 0 < p.1 := fun p hp h2 => by
        have q : mism p = false := by simpa using List.any_eq_false.mp hmi p hp
        have h1 := (hb p hp).1.1
        by_cases h0 : p.1 = 0
        · exfalso
          unfold mism at q
          rw [h0] at q
          have : (p.2 == 0) = false := by simp; omega
          rw [this] at q
          cases q
        · omega
      refine for_inv (fun ts env S' => S' = S ∧ ∃ (dn r : List (Int × Int)) (p q : Int) (e3 e4 e5 e6 e7 e8 : Option Tv), ts = r.map pr ∧ zs = dn ++ r ∧ env = [some (.tup (ws.map Tv.int)), some (.tup (rs.map Tv.int)), some (pr (p, q)), e3, e4, e5, e6, e7, e8] ∧
          ((p = 0 ∧ q = 1) ∨ ∃ i j : Int × Int, i ∈ zs ∧ j ∈ zs ∧ 0 < i.2 ∧ 0 < j.2 ∧ p = i.1 * j.2 ∧ q = i.2 * j.1) ∧ ∀ s ∈ dn, ∀ u ∈ zs, 0 < s.2 → 0 < u.2 → leC (s.1 * u.2, s.2 * u.1) (p, q))
        (fun _ _ _ _ => rfl) ?_ ?_ _ _ _ ⟨rfl, [], zs, 0, 1, none, none, none, none, none, none, rfl, rfl, rfl, .inl ⟨rfl, rfl⟩, fun s hs => by cases hs⟩
      · rintro t r0 env S' ⟨rfl, dn, r, p, q, e3, e4, e5, e6, e7, e8, hr, hd, rfl, hinv, hall⟩
        cases r with
        | nil => cases hr
        | cons o r =>
          simp only [List.map_cons, List.cons.injEq] at hr
          obtain ⟨rfl, rfl⟩ := hr
          have ho : o ∈ zs := by rw [hd]; simp
          refine ⟨[some (.tup (ws.map Tv.int)), some (.tup (rs.map Tv.int)), some (pr (p, q)), some (.int o.1), some (.int o.2), e5, e6, e7, e8], rfl, ?_⟩
          rw [exs_cons, ex_for]
          simp only [i_zip, w_var, List.getElem?_cons_zero, List.getElem?_cons_succ, srcOf, zt]
          refine for_inv (fun ts env S'' => S'' = S' ∧ ∃ (d2 r2 : List (Int × Int)) (p q : Int) (e5 e6 : Option Tv), ts = r2.map pr ∧ zs = d2 ++ r2 ∧ env = [some (.tup (ws.map Tv.int)), some (.tup (rs.map Tv.int)), some (pr (p, q)), some (.int o.1), some (.int o.2), e5, e6, e7, e8] ∧
              ((p = 0 ∧ q = 1) ∨ ∃ i j : Int × Int, i ∈ zs ∧ j ∈ zs ∧ 0 < i.2 ∧ 0 < j.2 ∧ p = i.1 * j.2 ∧ q = i.2 * j.1) ∧ (∀ s ∈ dn, ∀ u ∈ zs, 0 < s.2 → 0 < u.2 → leC (s.1 * u.2, s.2 * u.1) (p, q)) ∧ ∀ u ∈ d2, 0 < o.2 → 0 < u.2 → leC (o.1 * u.2, o.2 * u.1) (p, q))
            (fun _ _ _ _ => rfl) ?_ ?_ _ _ _ ⟨rfl, [], zs, p, q, e5, e6, rfl, rfl, rfl, hinv, hall, fun u hu => by cases hu⟩
          · rintro t r0 env S'' ⟨rfl, d2, r2, p, q, e5, e6, hr2, hd2, rfl, hinv, hall, hal2⟩
            cases r2 with
            | nil => cases hr2
            | cons u r2 =>
              simp only [List.map_cons, List.cons.injEq] at hr2
              obtain ⟨rfl, rfl⟩ := hr2
              have hu : u ∈ zs := by rw [hd2]; simp
              refine ⟨[some (.tup (ws.map Tv.int)), some (.tup (rs.map Tv.int)), some (pr (p, q)), some (.int o.1), some (.int o.2), some (.int u.1), some (.int u.2), e7, e8], rfl, ?_⟩
              rw [exs_cons]
              have bo := hb o ho
              have bu := hb u hu
              have bp : p.natAbs.log2 < 9000 ∧ q.natAbs.log2 < 9000 := by
                rcases hinv with ⟨rfl, rfl⟩ | ⟨i, j, hi, hj, i2, j2, rfl, rfl⟩
                · decide
                · have bi := hb i hi
                  have bj := hb j hj
                  exact ⟨log_mul bi.1 bj.2, log_mul bi.2 bj.1⟩
              have lo1 := log_small bo.1.1 (by omega)
              have lo2 := log_small bo.2.1 (by omega)
              have lu1 := log_small bu.1.1 (by omega)
              have lu2 := log_small bu.2.1 (by omega)
              have l12 := log_mul bo.1 bu.2
              have l21 := log_mul bo.2 bu.1
              have lp2 : (p * o.2).natAbs.log2 < 20000 := by
                rcases hinv with ⟨rfl, rfl⟩ | ⟨i, j, hi, hj, i2, j2, rfl, rfl⟩
                · rw [Int.zero_mul]; decide
                · have bi := hb i hi
                  have bj := hb j hj
                  have e : (0 : Int) ≤ i.1 * j.2 ∧ i.1 * j.2 ≤ 1000 * 1000 := ⟨Int.mul_nonneg bi.1.1 bj.2.1, Int.mul_le_mul bi.1.2 bj.2.2 bj.2.1 (by decide)⟩
                  have e2 : (0 : Int) ≤ i.1 * j.2 * o.2 ∧ i.1 * j.2 * o.2 ≤ 1000 * 1000 * 1000 := ⟨Int.mul_nonneg e.1 bo.2.1, Int.mul_le_mul e.2 bo.2.2 bo.2.1 (by decide)⟩
                  exact Nat.lt_trans (log_30 e2.1 e2.2) (by decide)
              have m1 : ∀ S, binV .mul S (.int o.1) (.int u.2) = some (.int (o.1 * u.2)) := fun S => mul_int (by omega)
              have m2 : ∀ S, binV .mul S (.int (o.1 * u.2)) (.int q) = some (.int (o.1 * u.2 * q)) := fun S => mul_int (by omega)
              have m3 : ∀ S, binV .mul S (.int p) (.int o.2) = some (.int (p * o.2)) := fun S => mul_int (by omega)
              have m4 : ∀ S, binV .mul S (.int (p * o.2)) (.int u.1) = some (.int (p * o.2 * u.1)) := fun S => mul_int (by omega)
              have m5 : ∀ S, binV .mul S (.int o.2) (.int u.1) = some (.int (o.2 * u.1)) := fun S => mul_int (by omega)
              have hal3 : ∀ {p' q' : Int}, (∀ w ∈ d2, 0 < o.2 → 0 < w.2 → leC (o.1 * w.2, o.2 * w.1) (p', q')) → (0 < o.2 → 0 < u.2 → leC (o.1 * u.2, o.2 * u.1) (p', q')) → ∀ w ∈ d2 ++ [u], 0 < o.2 → 0 < w.2 → leC (o.1 * w.2, o.2 * w.1) (p', q') := fun h1 h2 w hw a b => by
                rcases List.mem_append.mp hw with h | h
                · exact h1 w h a b
                · rw [List.mem_singleton.mp h] at b ⊢
                  exact h2 a b
              have stay : ¬ (0 < o.2 ∧ 0 < u.2 ∧ p * o.2 * u.1 < o.1 * u.2 * q) → (0 < o.2 → 0 < u.2 → leC (o.1 * u.2, o.2 * u.1) (p, q)) := fun hn a b => by
                unfold leC
                have : ¬ p * o.2 * u.1 < o.1 * u.2 * q := fun z => hn ⟨a, b, z⟩
                have e : p * (o.2 * u.1) = p * o.2 * u.1 := by rw [Int.mul_assoc]
                show o.1 * u.2 * q ≤ p * (o.2 * u.1)
                rw [e]
                omega
              have pq2 : 0 < q := by
                rcases hinv with ⟨rfl, rfl⟩ | ⟨i, j, hi, hj, i2, j2, rfl, rfl⟩
                · decide
                · exact Int.mul_pos i2 (posz j hj j2)
              simp only [exs_cons, exs_nil, ex_asg, ex_drop, ex_ret, ex_if, ex_set, ex_pass, ex_brk, ex_cont, ex_for, w_var, t_var, w_int, w_str, w_bl, w_non, w_gl, w_bin, w_neg, t_cmp, w_cmp, t_chain, w_chain, t_isC, w_isC, w_isi, t_isi, t_bop1, t_bop, w_bop1, w_bop, t_nt, w_nt, w_ite, t_ite, w_nil, w_cons, w_tup, w_fz, w_mu, w_disp, w_comp, w_ofSeq, w_call, w_prim, w_ix, w_sl, w_rev, w_pop, w_popAt, w_app, e_nop, e_int, e_var, e_bin, i_seq, i_rng, i_rng2, i_zip, i_enum, t_call, t_prim, tru_bl, opt_some, t_nop, List.getElem?_cons_zero, List.getElem?_cons_succ, setTg, setTgs, List.set_cons_zero, List.set_cons_succ, wp_ok, wipeE, len0, len1, len2, len3, len4, len5, len6, len7, len8, len9, len10, if_true, if_false, Bool.false_eq_true, eq_int, ne_int, gt_int, lt_int', le_int', ge_int', add_int, sub_int, abs_int, int_int, Option.map_some, srcOf, src_lst, src_tup, List.nil_append, ix_t0, ix_t1, ix_t2, ix_t3, ix_l0, ix_l1, ix_l2, is_non, and_true, true_and, m1, m2, m3, m4, m5, pr]
              by_cases k1 : 0 < o.2
              · by_cases k2 : 0 < u.2
                · by_cases k3 : p * o.2 * u.1 < o.1 * u.2 * q
                  · rw [if_pos (decide_eq_true k1), if_pos (decide_eq_true k2), if_pos (decide_eq_true k3)]
                    have u1 := posz u hu k2
                    have lt : leC (p, q) (o.1 * u.2, o.2 * u.1) := by
                      unfold leC
                      show p * (o.2 * u.1) ≤ o.1 * u.2 * q
                      rw [← Int.mul_assoc]
                      omega
                    have up : ∀ s : Int × Int, 0 < s.2 → leC s (p, q) → leC s (o.1 * u.2, o.2 * u.1) := fun s s2 h => leC_trans s2 pq2 (Int.mul_pos k1 u1) h lt
                    refine ⟨d2 ++ [u], r2, o.1 * u.2, o.2 * u.1, some (.int u.1), some (.int u.2), rfl, by rw [hd2]; simp, rfl, .inr ⟨o, u, ho, hu, k1, k2, rfl, rfl⟩, fun s hs w hw s2 w2 => ?_, hal3 (fun w hw a b => ?_) fun _ _ => leC_refl _⟩
                    · exact up _ (Int.mul_pos s2 (posz w hw w2)) (hall s hs w hw s2 w2)
                    · have hwz : w ∈ zs := by rw [hd2]; exact List.mem_append_left _ hw
                      exact up _ (Int.mul_pos a (posz w hwz b)) (hal2 w hw a b)
                  · simp only [decide_eq_true k1, decide_eq_true k2, decide_eq_false k3, Bool.false_eq_true, if_true, if_false]
                    exact ⟨d2 ++ [u], r2, p, q, some (.int u.1), some (.int u.2), rfl, by rw [hd2]; simp, rfl, hinv, hall, hal3 hal2 (stay fun z => k3 z.2.2)⟩
                · simp only [decide_eq_true k1, decide_eq_false k2, Bool.false_eq_true, if_true, if_false]
                  exact ⟨d2 ++ [u], r2, p, q, some (.int u.1), some (.int u.2), rfl, by rw [hd2]; simp, rfl, hinv, hall, hal3 hal2 (stay fun z => k2 z.2.1)⟩
              · simp only [decide_eq_false k1, Bool.false_eq_true, if_true, if_false]
                exact ⟨d2 ++ [u], r2, p, q, some (.int u.1), some (.int u.2), rfl, by rw [hd2]; simp, rfl, hinv, hall, hal3 hal2 (stay fun z => k1 z.1)⟩
          · rintro env S'' ⟨rfl, d2, r2, p, q, e5, e6, hr2, hd2, rfl, hinv, hall, hal2⟩
            cases r2 with
            | cons o r => cases hr2
            | nil =>
              rw [List.append_nil] at hd2
              subst hd2
              simp only [exs_nil]
              refine ⟨?_, dn ++ [o], r, p, q, _, _, _, _, _, _, rfl, by rw [hd]; simp, rfl, hinv, fun s hs u hu s2 u2 => ?_⟩
              · first | trivial | rfl
              · rcases List.mem_append.mp hs with w | w
                · exact hall s w u hu s2 u2
                · rw [List.mem_singleton.mp w] at s2 ⊢
                  exact hal2 u hu s2 u2
      · rintro env S' ⟨rfl, dn, r, p, q, e3, e4, e5, e6, e7, e8, hr, hd, rfl, hinv, hall⟩
        cases r with
        | cons o r => cases hr
        | nil =>
          rw [List.append_nil] at hd
          subst hd
          dsimp only
          rw [exs_cons]
          have hex : ∃ s ∈ zs, 0 < s.2 ∧ 0 < s.1 := by
            obtain ⟨n, hn, hn0⟩ := List.any_eq_true.mp hz
            obtain ⟨j, hj, rfl⟩ := List.mem_iff_getElem.mp hn
            have hjr : j < rs.length := by omega
            have hm : (ws[j], rs[j]) ∈ zs := by
              rw [← hzs]
              exact List.mem_iff_getElem.mpr ⟨j, by rw [List.length_zip]; omega, by simp⟩
            have q' : mism (ws[j], rs[j]) = false := by simpa using List.any_eq_false.mp hmi _ hm
            have hr2 : 0 < rs[j] := by
              have h0 := (hb _ hm).2.1
              simp only at h0
              by_cases h1 : rs[j] = 0
              · exfalso
                have : (ws[j] == 0) = false := by simpa using hn0
                unfold mism at q'
                simp only [h1, this] at q'
                cases q'
              · omega
            exact ⟨_, hm, hr2, posz _ hm hr2⟩
          rcases hinv with ⟨rfl, rfl⟩ | ⟨i, j, hi, hj, i2, j2, rfl, rfl⟩
          · exfalso
            obtain ⟨s, hs, s2, s1⟩ := hex
            have q := hall s hs s hs s2 s2
            unfold leC at q
            simp only [Int.mul_one, Int.zero_mul] at q
            have := Int.mul_pos s1 s2
            omega
          · have i1 := posz i hi i2
            have j1 := posz j hj j2
            simp only [ex_ret, w_call, w_cons, w_nil, w_var, List.getElem?_cons_zero, List.getElem?_cons_succ, pr, h11 _ i j hi hj i2 j2 i1 j1, wp_ok]
            refine ⟨?_, i, j, hi, hj, i2, j2, fun s hs u hu s2 u2 => hall s hs u hu s2 u2, ?_⟩ <;> first | trivial | rfl
end Mp
namespace Mp
/-! ### a statement at a time: what comes behind is data, and opens only on a value -/
section
variable {cf : Nat → List Tv → M Tv} {m : Nat} {r : List Sx} {env : Env} {S : Sto} {D : Po}
theorem exs_app {a b : List Sx} : (exs cf m (a ++ b) env S).wp D = (exs cf m a env S).wp { D with nx := fun e S => (exs cf m b e S).wp D } := by
  induction a generalizing env S with
  | nil => simp only [List.nil_append, exs_nil]
  | cons s a ih =>
    rw [List.cons_append, exs_cons, exs_cons]
    congr 1
    simp only [Po.mk.injEq, and_self, and_true]
    funext e S
    exact ih
def kA (cf : Nat → List Tv → M Tv) (m : Nat) (tg : Tg) (r : List Sx) (env : Env) (D : Po) (t : Tv) (S : Sto) : Prop := match setTg tg t env with
  | some e => (exs cf m r e S).wp D
  | none => False
theorem kA_eq {tg : Tg} {t : Tv} : kA cf m tg r env D t S = (match setTg tg t env with
  | some e => (exs cf m r e S).wp D
  | none => False) := rfl
theorem q_asg {tg : Tg} {e : Ex} : (exs cf m (.asg tg e :: r) env S).wp D = ((ev cf e).v env S).wp (kA cf m tg r env D) := by
  rw [exs_cons, ex_asg]
  rfl
def kR (cf : Nat → List Tv → M Tv) (m : Nat) (r : List Sx) (D : Po) (env : Env) (S : Sto) : Prop := (exs cf m r env S).wp D
theorem kR_eq : kR cf m r D env S = (exs cf m r env S).wp D := rfl
def kD (cf : Nat → List Tv → M Tv) (m : Nat) (r : List Sx) (env : Env) (D : Po) (t : Tv) (S : Sto) : Prop := (exs cf m r env S).wp D
theorem kD_eq {t : Tv} : kD cf m r env D t S = (exs cf m r env S).wp D := rfl
theorem q_drop {e : Ex} : (exs cf m (.drop e :: r) env S).wp D = ((ev cf e).v env S).wp (kD cf m r env D) := by
  rw [exs_cons, ex_drop]
  rfl
theorem q_ret {e : Ex} : (exs cf m (.ret e :: r) env S).wp D = ((ev cf e).v env S).wp D.rt := by
  rw [exs_cons, ex_ret]
def kI (cf : Nat → List Tv → M Tv) (m : Nat) (a b r : List Sx) (env : Env) (D : Po) (k : Bool) (S : Sto) : Prop := match k with
  | true => (exs cf m (a ++ r) env S).wp D
  | false => (exs cf m (b ++ r) env S).wp D
theorem kI_t {a b : List Sx} : kI cf m a b r env D true S = (exs cf m (a ++ r) env S).wp D := rfl
theorem kI_f {a b : List Sx} : kI cf m a b r env D false S = (exs cf m (b ++ r) env S).wp D := rfl
theorem q_if {c : Ex} {a b : List Sx} : (exs cf m (.ifS c a b :: r) env S).wp D = ((ev cf c).t env S).wp (kI cf m a b r env D) := by
  rw [exs_cons, ex_if]
  congr 1
  funext k S
  cases k with
  | true => rw [if_pos rfl, kI_t, exs_app]
  | false => rw [if_neg (by decide), kI_f, exs_app]
def kS (cf : Nat → List Tv → M Tv) (m : Nat) (r : List Sx) (env : Env) (D : Po) : Option Sto → Prop
  | some S => (exs cf m r env S).wp D
  | none => False
theorem kS_eq : kS cf m r env D (some S) = (exs cf m r env S).wp D := rfl
theorem q_set {a i e : Ex} : (exs cf m (.setIx a i e :: r) env S).wp D = ((ev cf e).v env S).wp fun t S => ((ev cf a).v env S).wp fun x S => ((ev cf i).v env S).wp fun j S => kS cf m r env D (setAt x j t S) := by
  rw [exs_cons, ex_set]
  congr 1
theorem q_pass : (exs cf m (.pass :: r) env S).wp D = (exs cf m r env S).wp D := by rw [exs_cons, ex_pass]
theorem q_brk : (exs cf m (.brk :: r) env S).wp D = D.bk env S := by rw [exs_cons, ex_brk]
theorem q_cont : (exs cf m (.cont :: r) env S).wp D = D.ct env S := by rw [exs_cons, ex_cont]
def kF (cf : Nat → List Tv → M Tv) (m : Nat) (tg : Tg) (b r : List Sx) (env : Env) (D : Po) (q : List Tv × List (Nat × List Tv)) (S : Sto) : Prop := (forL q.2 tg (exs cf m b) q.1 env S).wp { D with nx := kR cf m r D }
theorem kF_eq {tg : Tg} {b : List Sx} {ts : List Tv} {w : List (Nat × List Tv)} : kF cf m tg b r env D (ts, w) S = (forL w tg (exs cf m b) ts env S).wp { D with nx := kR cf m r D } := rfl
theorem q_for {tg : Tg} {it : Ix} {b : List Sx} : (exs cf m (.forS tg it b :: r) env S).wp D = (evI cf it env S).wp (kF cf m tg b r env D) := by
  rw [exs_cons, ex_for]
  rfl
theorem q_while {c : Ex} {b : List Sx} : (exs cf m (.whileS c b :: r) env S).wp D = (whileL (ev cf c).t (exs cf m b) m env S).wp { D with nx := kR cf m r D } := by
  rw [exs_cons, ex_while]
  rfl
/-! guards as ∧: nothing is left that whnf would run -/
theorem if_and {c P : Prop} [Decidable c] : (if c then P else False) = (c ∧ P) := by
  by_cases h : c <;> simp [h]
section
variable {cf : Nat → List Tv → M Tv} {env : Env} {S : Sto} {Q : Tv → Sto → Prop} {QL : List Tv → Sto → Prop} {a b c e : Ex} {es : List Ex}
theorem a_tup : ((ev cf (.tup es)).v env S).wp Q = (evs cf es env S).wp fun xs S => xs.length ≤ lim ∧ Q (.tup xs) S := by
  rw [w_tup]
  simp only [if_and]
theorem a_disp : (evL cf (.disp es) env S).wp QL = (evs cf es env S).wp fun xs S => xs.length ≤ lim ∧ QL xs S := by
  rw [w_disp]
  simp only [if_and]
theorem a_comp {own : List Nat} {tg : Tg} {it : Ix} : (evL cf (.comp own e tg it c) env S).wp QL = (evI cf it env S).wp fun q S => q.1.length ≤ lim ∧ (compL q.2 tg (wipeE env own) (ev cf c).t (ev cf e).v q.1 S).wp QL := by
  rw [w_comp]
  simp only [if_and]
variable {QI : List Tv × List (Nat × List Tv) → Sto → Prop}
/-- the places of a range -/
def rngA (x : Tv) (QI : List Tv × List (Nat × List Tv) → Sto → Prop) (S : Sto) : Prop := match x with
  | .int i => (-1000000 < i ∧ i < 1000000) ∧ QI (rngT 0 i.toNat, []) S
  | _ => False
theorem rngA_int {i : Int} : rngA (.int i) QI S = ((-1000000 < i ∧ i < 1000000) ∧ QI (rngT 0 i.toNat, []) S) := rfl
theorem a_rng : (evI cf (.rng a) env S).wp QI = ((ev cf a).v env S).wp fun x S => rngA x QI S := by
  rw [i_rng]
  congr 1; funext x S
  cases x <;> simp only [if_and, rngA]
def rngB (x y : Tv) (QI : List Tv × List (Nat × List Tv) → Sto → Prop) (S : Sto) : Prop := match x, y with
  | .int i, .int j => ((-1000000 < i ∧ i < 1000000) ∧ -1000000 < j ∧ j < 1000000) ∧ QI (rngT i (j - i).toNat, []) S
  | _, _ => False
theorem rngB_int {i j : Int} : rngB (.int i) (.int j) QI S = (((-1000000 < i ∧ i < 1000000) ∧ -1000000 < j ∧ j < 1000000) ∧ QI (rngT i (j - i).toNat, []) S) := rfl
theorem a_rng2 : (evI cf (.rng2 a b) env S).wp QI = ((ev cf a).v env S).wp fun x S => ((ev cf b).v env S).wp fun y S => rngB x y QI S := by
  rw [i_rng2]
  congr 1; funext x S
  congr 1; funext y S
  cases x <;> cases y <;> simp only [if_and, rngB]
def zipA (o p : Option (List Tv × List (Nat × List Tv))) (QI : List Tv × List (Nat × List Tv) → Sto → Prop) (S : Sto) : Prop := match o, p with
  | some (xs, u), some (ys, v) => QI (zipT xs ys, u ++ v) S
  | _, _ => False
theorem zipA_some {xs ys : List Tv} {u v : List (Nat × List Tv)} : zipA (some (xs, u)) (some (ys, v)) QI S = QI (zipT xs ys, u ++ v) S := rfl
theorem a_zip : (evI cf (.zip a b) env S).wp QI = ((ev cf a).v env S).wp fun x S => ((ev cf b).v env S).wp fun y S => zipA (srcOf S x) (srcOf S y) QI S := by
  rw [i_zip]
  rfl
def enA (o : Option (List Tv × List (Nat × List Tv))) (QI : List Tv × List (Nat × List Tv) → Sto → Prop) (S : Sto) : Prop := match o with
  | some (xs, u) => QI (enumT 0 xs, u) S
  | none => False
theorem enA_some {xs : List Tv} {u : List (Nat × List Tv)} : enA (some (xs, u)) QI S = QI (enumT 0 xs, u) S := rfl
theorem a_enum : (evI cf (.enum a) env S).wp QI = ((ev cf a).v env S).wp fun x S => enA (srcOf S x) QI S := by
  rw [i_enum]
  rfl
end
end
def tsI (ns : List Int) : Tv := .tup (ns.map Tv.int)
def lsI (r : List Int) : Tv := .lst (r.map Tv.int)
theorem src_tsI {S : Sto} {ns : List Int} : srcOf S (tsI ns) = some (ns.map Tv.int, []) := rfl
theorem src_lsI {S : Sto} {ns : List Int} : srcOf S (lsI ns) = some (ns.map Tv.int, []) := rfl
end Mp
namespace Mp
/-! ### draws as rules of the plain walk -/
/-- the deck stands at its places, and was asked at most b times -/
abbrev Dk (b : Nat) (S : Sto) : Prop := Deck S 1 0 b
/-- what stood, the deck left out, stands -/
structure Grow (S S' : Sto) : Prop where
  le : S.length ≤ S'.length
  at' : ∀ n, n ≠ 1 → n ≠ 0 → n < S.length → S'[n]? = S[n]?
theorem Grow.refl (S : Sto) : Grow S S := ⟨Nat.le_refl _, fun _ _ _ _ => rfl⟩
theorem Grow.trans {S S' S'' : Sto} (a : Grow S S') (b : Grow S' S'') : Grow S S'' :=
  ⟨Nat.le_trans a.le b.le, fun n h1 h0 h => by rw [b.at' n h1 h0 (Nat.lt_of_lt_of_le h a.le), a.at' n h1 h0 h]⟩
theorem Oth.grow {S S' : Sto} (o : Oth 1 0 S S') : Grow S S' := ⟨Nat.le_of_eq o.len.symm, fun n h1 h0 _ => o.at' n h1 h0⟩
theorem Dk.mono {S : Sto} {b c : Nat} (d : Dk b S) (h : b ≤ c) : Dk c S := by
  obtain ⟨⟨gs, cs, k, h0, h1, h2, h3, h4, h5⟩, hn⟩ := d
  exact ⟨⟨gs, cs, k, h0, h1, h2, h3, h4, by omega⟩, hn⟩
/-- something is drawn: the value has V -/
def Draws (V : Tv → Prop) (k : Nat) (S : Sto) (m : M Tv) : Prop := ∀ b S', Grow S S' → Dk b S' → b + k ≤ 900000 → (m S').wp fun t S'' => V t ∧ Dk (b + k) S'' ∧ Grow S' S''
theorem small_9000 {n : Nat} (h : n ≤ 100000000000000000000) (h0 : 0 < n) : n.log2 < 9000 :=
  Nat.lt_trans ((Nat.log2_lt (by omega)).mpr (Nat.lt_of_le_of_lt h (by decide : 100000000000000000000 < 2 ^ 67))) (by decide)
theorem draw_wp {cf cf' : Nat → List Tv → M Tv} {i : Nat} (hc : cf i = runD cf' xDraw) {S : Sto} {b : Nat} {many : Int} (h : Dk b S) (hb : b < 1000000) (hm : 0 < many) (hm2 : many ≤ 100000000000000000000) {Q : Tv → Sto → Prop}
    (q : ∀ (v : Int) S', 0 ≤ v → v < many → Dk (b + 1) S' → Grow S S' → Q (.int v) S') : (cf i [.cell 1, .int many] S).wp Q := by
  rw [hc]
  refine wp_mono (draw_ok h hm (small_9000 (by omega) (by omega)) hb) fun t S' ⟨v, e, v0, v1, d, o⟩ => ?_
  subst e
  exact q v S' v0 v1 d o.grow
theorem pick_wp {cf cf' cf'' : Nat → List Tv → M Tv} {i k : Nat} (hc : cf i = runD cf' (xPick k)) (hk : cf' k = runD cf'' xDraw) {S : Sto} {b : Nat} {ts : List Tv} (h : Dk b S) (hb : b < 1000000) (h0 : ts ≠ []) (hl : ts.length ≤ 1000) {Q : Tv → Sto → Prop}
    (q : ∀ t S', t ∈ ts → Dk (b + 1) S' → Grow S S' → Q t S') : (cf i [.cell 1, .lst ts] S).wp Q := by
  rw [hc]
  exact wp_mono (pick_ok (.inr ⟨cf'', hk⟩) h hb h0 hl) fun t S' ⟨e, d, o⟩ => q t S' e d o.grow
/-- a def that draws -/
theorem run_draw {cf : Nat → List Tv → M Tv} {d : Df} {as : List Tv} {S : Sto} {b b' : Nat} {V : Tv → Prop} (hl : as.length = d.k) (hd : Dk b S) (hb : b ≤ b')
    (h : (exs cf Fu d.body (as.map some ++ List.replicate (d.n - d.k) none) S).wp { nx := fun _ _ => False, rt := fun t S' => V t ∧ Dk b' S' ∧ Grow S S' }) : (runD cf d as S).wp fun t S' => V t ∧ Dk b' S' ∧ Grow S S' := by
  refine run_wp hl (sr_mono h (fun _ _ q => q.elim) (fun t S' q => ?_) (fun _ _ q => q) fun _ _ q => q)
  show if S'.take S.length = S ∧ t.noCell = true then _ else _
  split
  · exact ⟨q.1, hd.mono hb, Grow.refl S⟩
  · exact q
/-- a comprehension whose items are drawn -/
theorem comp_drawn {tg : Tg} {env : Env} {cf : Nat → List Tv → M Tv} {elt : Env → M Tv} {ts : List Tv} {S : Sto} {b k : Nat} (V : Tv → Tv → Prop) (hb : b + k * ts.length ≤ 900000) (d : Dk b S)
    (step : ∀ t ∈ ts, ∀ b S', b + k ≤ 900000 → Dk b S' → Grow S S' → match setTg tg t env with
      | some e => (elt e S').wp fun y S'' => V t y ∧ Dk (b + k) S'' ∧ Grow S' S''
      | none => False) {QL : List Tv → Sto → Prop} (q : ∀ ys S', ys.length = ts.length → (∀ p ∈ ts.zip ys, V p.1 p.2) → Dk (b + k * ts.length) S' → Grow S S' → QL ys S') :
    (compL [] tg env (ev cf .nop).t elt ts S).wp QL := by
  induction ts generalizing S b QL with
  | nil =>
    simp only [compL]
    rw [if_pos (show stays [] S = true from rfl)]
    rw [wp_ok]
    exact q [] S rfl (fun p hp => by cases hp) (d.mono (by simp)) (Grow.refl S)
  | cons t r ih =>
    have hk : k * (t :: r).length = k + k * r.length := by rw [List.length_cons, Nat.mul_succ, Nat.add_comm]
    rw [hk] at hb
    simp only [compL]
    rw [if_pos (show stays [] S = true from rfl)]
    have z := step t List.mem_cons_self b S (by omega) d (Grow.refl S)
    cases hs : setTg tg t env with
    | none => rw [hs] at z; exact z.elim
    | some e =>
      rw [hs] at z
      have z : (elt e S).wp fun y S'' => V t y ∧ Dk (b + k) S'' ∧ Grow S S'' := z
      simp only [wp_bnd, wp_calm]
      show (((ev cf .nop).t e S).wp fun k S' => _)
      rw [t_nop]
      simp only [if_true, wp_bnd, wp_calm]
      refine wp_mono z fun y S1 ⟨hv, d1, g1⟩ => ?_
      refine ih (b := b + k) (by omega) d1 (fun u hu b' S' hb' d' g' => step u (List.mem_cons_of_mem _ hu) b' S' hb' d' (g1.trans g')) fun ys S2 hl hV d2 g2 => ?_
      rw [wp_ret]
      refine q (y :: ys) S2 (by simp [hl]) (fun p hp => ?_) ?_ (g1.trans g2)
      · rw [List.zip_cons_cons] at hp
        rcases List.mem_cons.mp hp with e | e
        · subst e; exact hv
        · exact hV p e
      · rw [hk, ← Nat.add_assoc]; exact d2
/-- a list of numbers in a tuple -/
theorem ints_in {ys : List Tv} {P : Int → Prop} (h : ∀ y ∈ ys, ∃ i, y = Tv.int i ∧ P i) : ∃ ns : List Int, ys = ns.map Tv.int ∧ ∀ n ∈ ns, P n := by
  induction ys with
  | nil => exact ⟨[], rfl, fun n h => by cases h⟩
  | cons y r ih =>
    obtain ⟨i, rfl, hi⟩ := h y List.mem_cons_self
    obtain ⟨ns, rfl, hn⟩ := ih fun y hy => h y (List.mem_cons_of_mem _ hy)
    exact ⟨i :: ns, rfl, fun n hm => by
      rcases List.mem_cons.mp hm with e | e
      · subst e; exact hi
      · exact hn n e⟩
theorem zip_right {α β : Type} {P : β → Prop} : ∀ {ts : List α} {ys : List β}, ys.length = ts.length → (∀ p ∈ ts.zip ys, P p.2) → ∀ y ∈ ys, P y
  | [], [], _, _, y, h => by cases h
  | [], _ :: _, h, _, _, _ => by simp at h
  | _ :: _, [], _, _, y, h => by cases h
  | t :: ts, y0 :: ys, hl, h, y, hy => by
    rcases List.mem_cons.mp hy with e | e
    · subst e; exact h (t, y) (by simp)
    · exact zip_right (ts := ts) (ys := ys) (by simpa using hl) (fun p hp => h p (by rw [List.zip_cons_cons]; exact List.mem_cons_of_mem _ hp)) y e
theorem tup_lst {S : Sto} {xs : List Tv} : primV .tuple S [.lst xs] = some (.tup xs) := rfl

/-- the row of weights -/
def xLawWeights : Nat → Nat → Df := fun d p => ⟨3, 2,
  [
    .ret (.prim .tuple [(.fz (.comp [2] (.call p [(.var 0), (.fz (.disp [(.int 0), (.int 1), (.int 1), (.int 2), (.int 3), (.call d [(.var 0), (.int 21)])]))]) (.v 2) (.rng (.var 1)) .nop))])]⟩
/-- a row of so many weights -/
def Wts (m : Nat) (t : Tv) : Prop := ∃ ws : List Int, t = .tup (ws.map Tv.int) ∧ ws.length = m ∧ ∀ w ∈ ws, 0 ≤ w ∧ w ≤ 20
theorem weights_ok {cf c1 c2 c3 : Nat → List Tv → M Tv} {dr pk : Nat} (hd : cf dr = runD c1 xDraw) (hp : cf pk = runD c2 (xPick dr)) (hpd : c2 dr = runD c3 xDraw) {S : Sto} {b m : Nat} (d : Dk b S) (hm : m ≤ 100) (hb : b + 2 * m ≤ 900000) :
    (runD cf (xLawWeights dr pk) [.cell 1, .int m] S).wp fun t S' => Wts m t ∧ Dk (b + 2 * m) S' ∧ Grow S S' := by
  have hbm : b ≤ b + 2 * m := by omega
  refine run_draw rfl d hbm ?_
  show (exs cf Fu (xLawWeights dr pk).body [some (.cell 1), some (.int m), none] S).wp _
  unfold xLawWeights
  (try simp only [exs_nil, q_asg, kA_eq, kR_eq, q_drop, kD_eq, q_ret, q_if, kI_t, kI_f, q_set, kS_eq, q_pass, q_brk, q_cont, q_for, kF_eq, List.cons_append, List.nil_append, w_var, t_var, w_int, w_str, w_bl, w_non, w_gl, w_bin, w_neg, t_cmp, w_cmp, t_chain, w_chain, t_isC, w_isC, w_isi, t_isi, t_bop1, t_bop, w_bop1, w_bop, t_nt, w_nt, w_ite, t_ite, w_nil, w_cons, a_tup, w_fz, w_mu, a_disp, a_comp, w_ofSeq, w_call, w_prim, w_ix, w_sl, w_rev, w_pop, w_popAt, w_app, e_nop, e_int, e_var, e_bin, i_seq, a_rng, rngA_int, a_rng2, rngB_int, a_zip, zipA_some, a_enum, enA_some, src_tsI, src_lsI, t_call, t_prim, tru_bl, opt_some, t_nop, List.getElem?_cons_zero, List.getElem?_cons_succ, setTg, setTgs, List.set_cons_zero, List.set_cons_succ, wp_ok, wipeE, len0, len1, len2, len3, len4, len5, len6, len7, len8, len9, len10, if_true, if_false, Bool.false_eq_true, eq_int, ne_int, gt_int, lt_int', le_int', ge_int', add_int, sub_int, abs_int, int_int, Option.map_some, src_lst, src_tup, ix_t0, ix_t1, ix_t2, ix_t3, ix_l0, ix_l1, ix_l2, is_non, and_true, true_and])
  refine ⟨by omega, ?_⟩
  have hl : (rngT 0 (m : Int).toNat).length = m := by rw [rngT_len']; omega
  refine ⟨by rw [hl]; simp [lim]; omega, ?_⟩
  refine comp_drawn (b := b) (k := 2) (fun _ y => ∃ i, y = Tv.int i ∧ 0 ≤ i ∧ i ≤ 20) (by rw [hl]; omega) d (fun t _ b' S' hb' d' g' => ?_) fun ys S' hy hV d' g' => ?_
  · (try simp only [exs_nil, q_asg, kA_eq, kR_eq, q_drop, kD_eq, q_ret, q_if, kI_t, kI_f, q_set, kS_eq, q_pass, q_brk, q_cont, q_for, kF_eq, List.cons_append, List.nil_append, w_var, t_var, w_int, w_str, w_bl, w_non, w_gl, w_bin, w_neg, t_cmp, w_cmp, t_chain, w_chain, t_isC, w_isC, w_isi, t_isi, t_bop1, t_bop, w_bop1, w_bop, t_nt, w_nt, w_ite, t_ite, w_nil, w_cons, a_tup, w_fz, w_mu, a_disp, a_comp, w_ofSeq, w_call, w_prim, w_ix, w_sl, w_rev, w_pop, w_popAt, w_app, e_nop, e_int, e_var, e_bin, i_seq, a_rng, rngA_int, a_rng2, rngB_int, a_zip, zipA_some, a_enum, enA_some, src_tsI, src_lsI, t_call, t_prim, tru_bl, opt_some, t_nop, List.getElem?_cons_zero, List.getElem?_cons_succ, setTg, setTgs, List.set_cons_zero, List.set_cons_succ, wp_ok, wipeE, len0, len1, len2, len3, len4, len5, len6, len7, len8, len9, len10, if_true, if_false, Bool.false_eq_true, eq_int, ne_int, gt_int, lt_int', le_int', ge_int', add_int, sub_int, abs_int, int_int, Option.map_some, src_lst, src_tup, ix_t0, ix_t1, ix_t2, ix_t3, ix_l0, ix_l1, ix_l2, is_non, and_true, true_and])
    refine draw_wp hd d' (by omega) (by decide) (by decide) fun v S1 v0 v1 d1 g1 => ?_
    (try simp only [exs_nil, q_asg, kA_eq, kR_eq, q_drop, kD_eq, q_ret, q_if, kI_t, kI_f, q_set, kS_eq, q_pass, q_brk, q_cont, q_for, kF_eq, List.cons_append, List.nil_append, w_var, t_var, w_int, w_str, w_bl, w_non, w_gl, w_bin, w_neg, t_cmp, w_cmp, t_chain, w_chain, t_isC, w_isC, w_isi, t_isi, t_bop1, t_bop, w_bop1, w_bop, t_nt, w_nt, w_ite, t_ite, w_nil, w_cons, a_tup, w_fz, w_mu, a_disp, a_comp, w_ofSeq, w_call, w_prim, w_ix, w_sl, w_rev, w_pop, w_popAt, w_app, e_nop, e_int, e_var, e_bin, i_seq, a_rng, rngA_int, a_rng2, rngB_int, a_zip, zipA_some, a_enum, enA_some, src_tsI, src_lsI, t_call, t_prim, tru_bl, opt_some, t_nop, List.getElem?_cons_zero, List.getElem?_cons_succ, setTg, setTgs, List.set_cons_zero, List.set_cons_succ, wp_ok, wipeE, len0, len1, len2, len3, len4, len5, len6, len7, len8, len9, len10, if_true, if_false, Bool.false_eq_true, eq_int, ne_int, gt_int, lt_int', le_int', ge_int', add_int, sub_int, abs_int, int_int, Option.map_some, src_lst, src_tup, ix_t0, ix_t1, ix_t2, ix_t3, ix_l0, ix_l1, ix_l2, is_non, and_true, true_and])
    refine pick_wp hp hpd d1 (by omega) (by simp) (by simp) fun u S2 hu d2 g2 => ?_
    refine ⟨?_, d2, g1.trans g2⟩
    simp only [List.mem_cons, List.not_mem_nil, or_false] at hu
    rcases hu with rfl | rfl | rfl | rfl | rfl | rfl <;> exact ⟨_, rfl, by omega, by omega⟩
  · rw [hl] at hy d'
    obtain ⟨ns, rfl, hn⟩ := ints_in (P := fun i => 0 ≤ i ∧ i ≤ 20) (zip_right (by rw [hy, hl]) hV)
    (try simp only [exs_nil, q_asg, kA_eq, kR_eq, q_drop, kD_eq, q_ret, q_if, kI_t, kI_f, q_set, kS_eq, q_pass, q_brk, q_cont, q_for, kF_eq, List.cons_append, List.nil_append, w_var, t_var, w_int, w_str, w_bl, w_non, w_gl, w_bin, w_neg, t_cmp, w_cmp, t_chain, w_chain, t_isC, w_isC, w_isi, t_isi, t_bop1, t_bop, w_bop1, w_bop, t_nt, w_nt, w_ite, t_ite, w_nil, w_cons, a_tup, w_fz, w_mu, a_disp, a_comp, w_ofSeq, w_call, w_prim, w_ix, w_sl, w_rev, w_pop, w_popAt, w_app, e_nop, e_int, e_var, e_bin, i_seq, a_rng, rngA_int, a_rng2, rngB_int, a_zip, zipA_some, a_enum, enA_some, src_tsI, src_lsI, t_call, t_prim, tru_bl, opt_some, t_nop, List.getElem?_cons_zero, List.getElem?_cons_succ, setTg, setTgs, List.set_cons_zero, List.set_cons_succ, wp_ok, wipeE, len0, len1, len2, len3, len4, len5, len6, len7, len8, len9, len10, if_true, if_false, Bool.false_eq_true, eq_int, ne_int, gt_int, lt_int', le_int', ge_int', add_int, sub_int, abs_int, int_int, Option.map_some, src_lst, src_tup, ix_t0, ix_t1, ix_t2, ix_t3, ix_l0, ix_l1, ix_l2, is_non, and_true, true_and, tup_lst])
    rw [List.length_map] at hy
    exact ⟨⟨ns, rfl, hy, hn⟩, d', g'⟩
end Mp
namespace Mp
/-! ### spread: both ways tell the same -/
theorem log_of_lt {x : Int} {n : Nat} (h0 : 0 ≤ x) (h : x < 2 ^ n) (hn : 0 < n) : x.natAbs.log2 < n := by
  by_cases hz : x.natAbs = 0
  · rw [hz]; exact hn
  · refine (Nat.log2_lt hz).mpr ?_
    have e : ((2 ^ n : Nat) : Int) = (2 : Int) ^ n := by simp
    omega
theorem spread_same {ws rs : List Int} {t u : Tv} (hb : ∀ p ∈ ws.zip rs, (0 ≤ p.1 ∧ p.1 ≤ 1000) ∧ 0 ≤ p.2 ∧ p.2 ≤ 1000) (h : SpreadV ws rs t) (k : LawSpreadV ws rs u) :
    (u = .tup [] ∧ t = .non) ∨ ∃ a b : Int, (0 ≤ a ∧ a ≤ 1000000) ∧ (0 ≤ b ∧ b ≤ 1000000) ∧ u = .tup [.int a, .int b] ∧ t = .tup [.int a, .int b] := by
  unfold SpreadV at h
  unfold LawSpreadV at k
  by_cases c1 : (ws.any fun n => !(n == 0)) = false
  · rw [if_pos c1] at h k
    exact .inr ⟨0, 1, by omega, by omega, k, h⟩
  · rw [if_neg c1] at h k
    by_cases c2 : (ws.zip rs).any mism = true
    · rw [if_pos c2] at h k
      exact .inl ⟨k, h⟩
    · rw [if_neg c2] at h k
      obtain ⟨m, l, hm, hl, m2, l2, hall, rfl⟩ := h
      obtain ⟨i, j, hi, hj, i2, j2, hlaw, rfl⟩ := k
      have pos : ∀ p ∈ ws.zip rs, 0 < p.2 → 0 < p.1 := fun p hp h2 => by
        have q : mism p = false := by simpa using List.any_eq_false.mp (by simpa using c2) p hp
        have h1 := (hb p hp).1.1
        by_cases h0 : p.1 = 0
        · exfalso
          unfold mism at q
          rw [h0] at q
          have : (p.2 == 0) = false := by simp; omega
          rw [this] at q
          cases q
        · omega
      have m1 := pos m hm m2
      have l1 := pos l hl l2
      have i1 := pos i hi i2
      have j1 := pos j hj j2
      have e1 : (m.1 * l.2) * (i.2 * j.1) ≤ (i.1 * j.2) * (m.2 * l.1) := hlaw m hm l hl m2 l2
      have a1 : i.1 * m.2 ≤ m.1 * i.2 := (hall i hi i2).1
      have a2 : l.1 * j.2 ≤ j.1 * l.2 := (hall j hj j2).2
      have e2 : (i.1 * j.2) * (m.2 * l.1) ≤ (m.1 * l.2) * (i.2 * j.1) := by
        have z : (i.1 * m.2) * (l.1 * j.2) ≤ (m.1 * i.2) * (j.1 * l.2) :=
          Int.mul_le_mul a1 a2 (Int.mul_nonneg (by omega) (by omega)) (Int.mul_nonneg (by omega) (by omega))
        have x1 : (i.1 * j.2) * (m.2 * l.1) = (i.1 * m.2) * (l.1 * j.2) := by ac_rfl
        have x2 : (m.1 * l.2) * (i.2 * j.1) = (m.1 * i.2) * (j.1 * l.2) := by ac_rfl
        rw [x1, x2]
        exact z
      have e3 : (m.1 * l.2) * (i.2 * j.1) = (i.1 * j.2) * (m.2 * l.1) := by omega
      obtain ⟨q1, q2⟩ := lowest_eq (Int.mul_pos m2 l1) (Int.mul_pos i2 j1) (Int.mul_pos m1 l2) (Int.mul_pos i1 j2) e3
      have bm := hb i hi
      have bl := hb j hj
      have b1 : i.1 * j.2 ≤ 1000 * 1000 := Int.mul_le_mul bm.1.2 bl.2.2 (by omega) (by decide)
      have b2 : i.2 * j.1 ≤ 1000 * 1000 := Int.mul_le_mul bm.2.2 bl.1.2 (by omega) (by decide)
      have p1 := Int.mul_pos i1 j2
      have p2 := Int.mul_pos i2 j1
      refine .inr ⟨_, _, ⟨Int.ediv_nonneg (by omega) (by omega), ?_⟩, ⟨Int.ediv_nonneg (by omega) (by omega), ?_⟩, rfl, by rw [q1, q2]⟩
      · exact Int.le_trans (Int.ediv_le_self _ (by omega)) (by omega)
      · exact Int.le_trans (Int.ediv_le_self _ (by omega)) (by omega)
theorem run_law {cf : Nat → List Tv → M Tv} {d : Df} {as : List Tv} {S : Sto} (hl : as.length = d.k)
    (h : (exs cf Fu d.body (as.map some ++ List.replicate (d.n - d.k) none) S).wp { nx := fun _ _ => False, rt := fun t _ => t = .bl true }) : ∃ S', runD cf d as S = .ok (.bl true) S' := by
  have z : (runD cf d as S).wp fun t _ => t = .bl true := by
    refine run_wp hl (sr_mono h (fun _ _ q => q.elim) (fun t S' q => ?_) (fun _ _ q => q) fun _ _ q => q)
    show if S'.take S.length = S ∧ t.noCell = true then _ else _
    split <;> exact q
  obtain ⟨t, S', e, rfl⟩ := wp_get z
  exact ⟨S', e⟩
theorem eq_str {S : Sto} {x y : PySem.Str} : cmpV .eq S (.str x) (.str y) = some (x == y) := rfl
theorem ne_str {S : Sto} {x : PySem.Str} : cmpV .ne S (.str x) (.str x) = some false := by
  show (some (x == x)).map (!·) = _
  simp
theorem repr_ok {S : Sto} {t : Tv} (h1 : thaw S t = some t) (h2 : Tv.rOk 16 t = true) (h3 : Tv.bulk t ≤ 20000) : primV .repr S [t] = some (.str (Tv.shown t)) := by
  show reprV S t = _
  unfold reprV
  rw [h1]
  simp only
  rw [if_pos ⟨h2, h3⟩]

def xK14 : Df := ⟨14, 1,
  [
    .asg (.v 1) (.call 6 [(.var 0)]),
    .forS (.v 2) (.rng (.int 10))
      [
        .asg (.v 3) (.bin .add (.int 1) (.call 7 [(.var 1), (.int 4)])),
        .asg (.tup [(.v 7), (.v 8)]) (.tup [(.call 9 [(.var 1), (.var 3)]), (.call 9 [(.var 1), (.var 3)])]),
        .asg (.v 4) (.prim .tuple [(.fz (.comp [12] (.int 0) (.v 12) (.rng (.var 3)) .nop))]),
        .asg (.v 5) (.prim .tuple [(.fz (.comp [13] (.ite (.cmp .gt (.var 13) (.int 0)) (.call 8 [(.var 1), (.fz (.disp [(.int 1), (.int 2), (.int 5), (.int 20)]))]) (.int 0)) (.v 13) (.seq (.var 8)) .nop))]),
        .asg (.v 6) (.prim .tuple [(.fz (.comp [13] (.bin .mul (.int 3) (.var 13)) (.v 13) (.seq (.var 8)) .nop))]),
        .forS (.tup [(.v 9), (.v 10)]) (.seq (.fz (.disp [(.tup [(.var 7), (.var 8)]), (.tup [(.var 5), (.var 8)]), (.tup [(.var 4), (.var 8)]), (.tup [(.var 7), (.var 4)]), (.tup [(.var 8), (.var 6)]), (.tup [(.var 5), (.var 6)])])))
          [
            .asg (.v 11) (.call 12 [(.var 9), (.var 10)]),
            .ifS (.cmp .ne (.prim .repr [(.call 5 [(.var 9), (.var 10)])]) (.prim .repr [(.ite (.cmp .ne (.var 11) (.tup [])) (.var 11) .non)]))
              [
                .ret (.bl false)]
              []]],
    .ret (.bl true)]⟩
def prT (p : List Int × List Int) : Tv := .tup [tsI p.1, tsI p.2]
theorem k14_law {cf c7 c8 c87 : Nat → List Tv → M Tv} {ns : List Int}
    (h6 : (cf 6 [.scr (ns.map Tv.int)] []).wp fun t S => t = .cell 1 ∧ Dk 0 S)
    (h7 : cf 7 = runD c7 xDraw) (h8 : cf 8 = runD c8 (xPick 7)) (h87 : c8 7 = runD c87 xDraw)
    (h9 : ∀ (S : Sto) (b m : Nat), Dk b S → m ≤ 100 → b + 2 * m ≤ 900000 → (cf 9 [.cell 1, .int m] S).wp fun t S' => Wts m t ∧ Dk (b + 2 * m) S' ∧ Grow S S')
    (h5 : ∀ (S : Sto) (ws rs : List Int), ws.length = rs.length → ws.length ≤ 100 → (∀ p ∈ ws.zip rs, (0 ≤ p.1 ∧ p.1 ≤ 1000) ∧ 0 ≤ p.2 ∧ p.2 ≤ 1000) → ∃ t, cf 5 [tsI ws, tsI rs] S = .ok t S ∧ SpreadV ws rs t)
    (h12 : ∀ (S : Sto) (ws rs : List Int), ws.length = rs.length → ws.length ≤ 100 → (∀ p ∈ ws.zip rs, (0 ≤ p.1 ∧ p.1 ≤ 1000) ∧ 0 ≤ p.2 ∧ p.2 ≤ 1000) → ∃ t, cf 12 [tsI ws, tsI rs] S = .ok t S ∧ LawSpreadV ws rs t) :
    ∃ S', runD cf xK14 [.scr (ns.map Tv.int)] [] = .ok (.bl true) S' := by
  refine run_law rfl ?_
  show (exs cf Fu xK14.body [some (.scr (ns.map Tv.int)), none, none, none, none, none, none, none, none, none, none, none, none, none] []).wp _
  unfold xK14
  (try simp only [exs_nil, q_asg, kA_eq, kR_eq, q_drop, kD_eq, q_ret, q_if, kI_t, kI_f, q_set, kS_eq, q_pass, q_brk, q_cont, q_for, kF_eq, List.cons_append, List.nil_append, w_var, t_var, w_int, w_str, w_bl, w_non, w_gl, w_bin, w_neg, t_cmp, w_cmp, t_chain, w_chain, t_isC, w_isC, w_isi, t_isi, t_bop1, t_bop, w_bop1, w_bop, t_nt, w_nt, w_ite, t_ite, w_nil, w_cons, a_tup, w_fz, w_mu, a_disp, a_comp, w_ofSeq, w_call, w_prim, w_ix, w_sl, w_rev, w_pop, w_popAt, w_app, e_nop, e_int, e_var, e_bin, i_seq, a_rng, rngA_int, a_rng2, rngB_int, a_zip, zipA_some, a_enum, enA_some, src_tsI, src_lsI, t_call, t_prim, tru_bl, opt_some, t_nop, List.getElem?_cons_zero, List.getElem?_cons_succ, setTg, setTgs, List.set_cons_zero, List.set_cons_succ, wp_ok, wipeE, len0, len1, len2, len3, len4, len5, len6, len7, len8, len9, len10, if_true, if_false, Bool.false_eq_true, eq_int, ne_int, gt_int, lt_int', le_int', ge_int', add_int, sub_int, abs_int, int_int, Option.map_some, src_lst, src_tup, ix_t0, ix_t1, ix_t2, ix_t3, ix_l0, ix_l1, ix_l2, is_non, and_true, true_and])
  refine wp_mono h6 ?_
  rintro t S ⟨rfl, d0⟩
  (try simp only [exs_nil, q_asg, kA_eq, kR_eq, q_drop, kD_eq, q_ret, q_if, kI_t, kI_f, q_set, kS_eq, q_pass, q_brk, q_cont, q_for, kF_eq, List.cons_append, List.nil_append, w_var, t_var, w_int, w_str, w_bl, w_non, w_gl, w_bin, w_neg, t_cmp, w_cmp, t_chain, w_chain, t_isC, w_isC, w_isi, t_isi, t_bop1, t_bop, w_bop1, w_bop, t_nt, w_nt, w_ite, t_ite, w_nil, w_cons, a_tup, w_fz, w_mu, a_disp, a_comp, w_ofSeq, w_call, w_prim, w_ix, w_sl, w_rev, w_pop, w_popAt, w_app, e_nop, e_int, e_var, e_bin, i_seq, a_rng, rngA_int, a_rng2, rngB_int, a_zip, zipA_some, a_enum, enA_some, src_tsI, src_lsI, t_call, t_prim, tru_bl, opt_some, t_nop, List.getElem?_cons_zero, List.getElem?_cons_succ, setTg, setTgs, List.set_cons_zero, List.set_cons_succ, wp_ok, wipeE, len0, len1, len2, len3, len4, len5, len6, len7, len8, len9, len10, if_true, if_false, Bool.false_eq_true, eq_int, ne_int, gt_int, lt_int', le_int', ge_int', add_int, sub_int, abs_int, int_int, Option.map_some, src_lst, src_tup, ix_t0, ix_t1, ix_t2, ix_t3, ix_l0, ix_l1, ix_l2, is_non, and_true, true_and])
  refine ⟨by decide, ?_⟩
  rw [rngT_map]
  refine for_on (fun dn r env S => Dk (40 * dn.length) S ∧ dn.length + r.length = 10 ∧ ∃ j2 j3 j4 j5 j6 j7 j8 j9 j10 j11 j12 j13 : Option Tv, env = [some (.scr (ns.map Tv.int)), some (.cell 1), j2, j3, j4, j5, j6, j7, j8, j9, j10, j11, j12, j13]) (fun _ _ _ _ _ => rfl) ?_ ?_ ⟨d0, by decide, _, _, _, _, _, _, _, _, _, _, _, _, rfl⟩
  · rintro dn x r env S - ⟨d, hlen, j2, j3, j4, j5, j6, j7, j8, j9, j10, j11, j12, j13, rfl⟩
    simp only [List.length_cons] at hlen
    (try simp only [exs_nil, q_asg, kA_eq, kR_eq, q_drop, kD_eq, q_ret, q_if, kI_t, kI_f, q_set, kS_eq, q_pass, q_brk, q_cont, q_for, kF_eq, List.cons_append, List.nil_append, w_var, t_var, w_int, w_str, w_bl, w_non, w_gl, w_bin, w_neg, t_cmp, w_cmp, t_chain, w_chain, t_isC, w_isC, w_isi, t_isi, t_bop1, t_bop, w_bop1, w_bop, t_nt, w_nt, w_ite, t_ite, w_nil, w_cons, a_tup, w_fz, w_mu, a_disp, a_comp, w_ofSeq, w_call, w_prim, w_ix, w_sl, w_rev, w_pop, w_popAt, w_app, e_nop, e_int, e_var, e_bin, i_seq, a_rng, rngA_int, a_rng2, rngB_int, a_zip, zipA_some, a_enum, enA_some, src_tsI, src_lsI, t_call, t_prim, tru_bl, opt_some, t_nop, List.getElem?_cons_zero, List.getElem?_cons_succ, setTg, setTgs, List.set_cons_zero, List.set_cons_succ, wp_ok, wipeE, len0, len1, len2, len3, len4, len5, len6, len7, len8, len9, len10, if_true, if_false, Bool.false_eq_true, eq_int, ne_int, gt_int, lt_int', le_int', ge_int', add_int, sub_int, abs_int, int_int, Option.map_some, src_lst, src_tup, ix_t0, ix_t1, ix_t2, ix_t3, ix_l0, ix_l1, ix_l2, is_non, and_true, true_and])
    refine draw_wp h7 d (by omega) (by decide) (by decide) fun v S1 v0 v1 d1 g1 => ?_
    (try simp only [exs_nil, q_asg, kA_eq, kR_eq, q_drop, kD_eq, q_ret, q_if, kI_t, kI_f, q_set, kS_eq, q_pass, q_brk, q_cont, q_for, kF_eq, List.cons_append, List.nil_append, w_var, t_var, w_int, w_str, w_bl, w_non, w_gl, w_bin, w_neg, t_cmp, w_cmp, t_chain, w_chain, t_isC, w_isC, w_isi, t_isi, t_bop1, t_bop, w_bop1, w_bop, t_nt, w_nt, w_ite, t_ite, w_nil, w_cons, a_tup, w_fz, w_mu, a_disp, a_comp, w_ofSeq, w_call, w_prim, w_ix, w_sl, w_rev, w_pop, w_popAt, w_app, e_nop, e_int, e_var, e_bin, i_seq, a_rng, rngA_int, a_rng2, rngB_int, a_zip, zipA_some, a_enum, enA_some, src_tsI, src_lsI, t_call, t_prim, tru_bl, opt_some, t_nop, List.getElem?_cons_zero, List.getElem?_cons_succ, setTg, setTgs, List.set_cons_zero, List.set_cons_succ, wp_ok, wipeE, len0, len1, len2, len3, len4, len5, len6, len7, len8, len9, len10, if_true, if_false, Bool.false_eq_true, eq_int, ne_int, gt_int, lt_int', le_int', ge_int', add_int, sub_int, abs_int, int_int, Option.map_some, src_lst, src_tup, ix_t0, ix_t1, ix_t2, ix_t3, ix_l0, ix_l1, ix_l2, is_non, and_true, true_and])
    obtain ⟨v, rfl⟩ := Int.eq_ofNat_of_zero_le v0
    have ev1 : (1 : Int) + (v : Int) = ((v + 1 : Nat) : Int) := by omega
    rw [ev1]
    generalize hm : v + 1 = m
    have hm1 : 1 ≤ m ∧ m ≤ 4 := by omega
    (try simp only [exs_nil, q_asg, kA_eq, kR_eq, q_drop, kD_eq, q_ret, q_if, kI_t, kI_f, q_set, kS_eq, q_pass, q_brk, q_cont, q_for, kF_eq, List.cons_append, List.nil_append, w_var, t_var, w_int, w_str, w_bl, w_non, w_gl, w_bin, w_neg, t_cmp, w_cmp, t_chain, w_chain, t_isC, w_isC, w_isi, t_isi, t_bop1, t_bop, w_bop1, w_bop, t_nt, w_nt, w_ite, t_ite, w_nil, w_cons, a_tup, w_fz, w_mu, a_disp, a_comp, w_ofSeq, w_call, w_prim, w_ix, w_sl, w_rev, w_pop, w_popAt, w_app, e_nop, e_int, e_var, e_bin, i_seq, a_rng, rngA_int, a_rng2, rngB_int, a_zip, zipA_some, a_enum, enA_some, src_tsI, src_lsI, t_call, t_prim, tru_bl, opt_some, t_nop, List.getElem?_cons_zero, List.getElem?_cons_succ, setTg, setTgs, List.set_cons_zero, List.set_cons_succ, wp_ok, wipeE, len0, len1, len2, len3, len4, len5, len6, len7, len8, len9, len10, if_true, if_false, Bool.false_eq_true, eq_int, ne_int, gt_int, lt_int', le_int', ge_int', add_int, sub_int, abs_int, int_int, Option.map_some, src_lst, src_tup, ix_t0, ix_t1, ix_t2, ix_t3, ix_l0, ix_l1, ix_l2, is_non, and_true, true_and])
    refine wp_mono (h9 S1 _ m d1 (by omega) (by omega)) ?_
    rintro t S2 ⟨⟨ws, rfl, hwl, hwb⟩, d2, g2⟩
    (try simp only [exs_nil, q_asg, kA_eq, kR_eq, q_drop, kD_eq, q_ret, q_if, kI_t, kI_f, q_set, kS_eq, q_pass, q_brk, q_cont, q_for, kF_eq, List.cons_append, List.nil_append, w_var, t_var, w_int, w_str, w_bl, w_non, w_gl, w_bin, w_neg, t_cmp, w_cmp, t_chain, w_chain, t_isC, w_isC, w_isi, t_isi, t_bop1, t_bop, w_bop1, w_bop, t_nt, w_nt, w_ite, t_ite, w_nil, w_cons, a_tup, w_fz, w_mu, a_disp, a_comp, w_ofSeq, w_call, w_prim, w_ix, w_sl, w_rev, w_pop, w_popAt, w_app, e_nop, e_int, e_var, e_bin, i_seq, a_rng, rngA_int, a_rng2, rngB_int, a_zip, zipA_some, a_enum, enA_some, src_tsI, src_lsI, t_call, t_prim, tru_bl, opt_some, t_nop, List.getElem?_cons_zero, List.getElem?_cons_succ, setTg, setTgs, List.set_cons_zero, List.set_cons_succ, wp_ok, wipeE, len0, len1, len2, len3, len4, len5, len6, len7, len8, len9, len10, if_true, if_false, Bool.false_eq_true, eq_int, ne_int, gt_int, lt_int', le_int', ge_int', add_int, sub_int, abs_int, int_int, Option.map_some, src_lst, src_tup, ix_t0, ix_t1, ix_t2, ix_t3, ix_l0, ix_l1, ix_l2, is_non, and_true, true_and])
    refine wp_mono (h9 S2 _ m d2 (by omega) (by omega)) ?_
    rintro t S3 ⟨⟨rs, rfl, hrl, hrb⟩, d3, g3⟩
    (try simp only [exs_nil, q_asg, kA_eq, kR_eq, q_drop, kD_eq, q_ret, q_if, kI_t, kI_f, q_set, kS_eq, q_pass, q_brk, q_cont, q_for, kF_eq, List.cons_append, List.nil_append, w_var, t_var, w_int, w_str, w_bl, w_non, w_gl, w_bin, w_neg, t_cmp, w_cmp, t_chain, w_chain, t_isC, w_isC, w_isi, t_isi, t_bop1, t_bop, w_bop1, w_bop, t_nt, w_nt, w_ite, t_ite, w_nil, w_cons, a_tup, w_fz, w_mu, a_disp, a_comp, w_ofSeq, w_call, w_prim, w_ix, w_sl, w_rev, w_pop, w_popAt, w_app, e_nop, e_int, e_var, e_bin, i_seq, a_rng, rngA_int, a_rng2, rngB_int, a_zip, zipA_some, a_enum, enA_some, src_tsI, src_lsI, t_call, t_prim, tru_bl, opt_some, t_nop, List.getElem?_cons_zero, List.getElem?_cons_succ, setTg, setTgs, List.set_cons_zero, List.set_cons_succ, wp_ok, wipeE, len0, len1, len2, len3, len4, len5, len6, len7, len8, len9, len10, if_true, if_false, Bool.false_eq_true, eq_int, ne_int, gt_int, lt_int', le_int', ge_int', add_int, sub_int, abs_int, int_int, Option.map_some, src_lst, src_tup, ix_t0, ix_t1, ix_t2, ix_t3, ix_l0, ix_l1, ix_l2, is_non, and_true, true_and])
    refine ⟨by omega, by rw [rngT_len']; simp [lim]; omega, ?_⟩
    rw [rngT_map, comp_all (fun _ => Tv.int 0) rfl (fun x _ => by (try simp only [exs_nil, q_asg, kA_eq, kR_eq, q_drop, kD_eq, q_ret, q_if, kI_t, kI_f, q_set, kS_eq, q_pass, q_brk, q_cont, q_for, kF_eq, List.cons_append, List.nil_append, w_var, t_var, w_int, w_str, w_bl, w_non, w_gl, w_bin, w_neg, t_cmp, w_cmp, t_chain, w_chain, t_isC, w_isC, w_isi, t_isi, t_bop1, t_bop, w_bop1, w_bop, t_nt, w_nt, w_ite, t_ite, w_nil, w_cons, a_tup, w_fz, w_mu, a_disp, a_comp, w_ofSeq, w_call, w_prim, w_ix, w_sl, w_rev, w_pop, w_popAt, w_app, e_nop, e_int, e_var, e_bin, i_seq, a_rng, rngA_int, a_rng2, rngB_int, a_zip, zipA_some, a_enum, enA_some, src_tsI, src_lsI, t_call, t_prim, tru_bl, opt_some, t_nop, List.getElem?_cons_zero, List.getElem?_cons_succ, setTg, setTgs, List.set_cons_zero, List.set_cons_succ, wp_ok, wipeE, len0, len1, len2, len3, len4, len5, len6, len7, len8, len9, len10, if_true, if_false, Bool.false_eq_true, eq_int, ne_int, gt_int, lt_int', le_int', ge_int', add_int, sub_int, abs_int, int_int, Option.map_some, src_lst, src_tup, ix_t0, ix_t1, ix_t2, ix_t3, ix_l0, ix_l1, ix_l2, is_non, and_true, true_and]))]
    have hz : ((List.range (m : Int).toNat).map fun _ => Tv.int 0) = (List.replicate m (0 : Int)).map Tv.int := by
      rw [List.map_replicate, List.eq_replicate_iff]
      refine ⟨by simp, fun b hb => ?_⟩
      obtain ⟨_, _, rfl⟩ := List.mem_map.mp hb
      rfl
    rw [hz]
    have lr : ((rs.map Tv.int).length ≤ lim) = True := len_map (by omega)
    (try simp only [exs_nil, q_asg, kA_eq, kR_eq, q_drop, kD_eq, q_ret, q_if, kI_t, kI_f, q_set, kS_eq, q_pass, q_brk, q_cont, q_for, kF_eq, List.cons_append, List.nil_append, w_var, t_var, w_int, w_str, w_bl, w_non, w_gl, w_bin, w_neg, t_cmp, w_cmp, t_chain, w_chain, t_isC, w_isC, w_isi, t_isi, t_bop1, t_bop, w_bop1, w_bop, t_nt, w_nt, w_ite, t_ite, w_nil, w_cons, a_tup, w_fz, w_mu, a_disp, a_comp, w_ofSeq, w_call, w_prim, w_ix, w_sl, w_rev, w_pop, w_popAt, w_app, e_nop, e_int, e_var, e_bin, i_seq, a_rng, rngA_int, a_rng2, rngB_int, a_zip, zipA_some, a_enum, enA_some, src_tsI, src_lsI, t_call, t_prim, tru_bl, opt_some, t_nop, List.getElem?_cons_zero, List.getElem?_cons_succ, setTg, setTgs, List.set_cons_zero, List.set_cons_succ, wp_ok, wipeE, len0, len1, len2, len3, len4, len5, len6, len7, len8, len9, len10, if_true, if_false, Bool.false_eq_true, eq_int, ne_int, gt_int, lt_int', le_int', ge_int', add_int, sub_int, abs_int, int_int, Option.map_some, src_lst, src_tup, ix_t0, ix_t1, ix_t2, ix_t3, ix_l0, ix_l1, ix_l2, is_non, and_true, true_and, tup_lst, lr])
    refine comp_drawn (b := 40 * dn.length + 1 + 2 * m + 2 * m) (k := 1) (fun t y => ∃ i : Int, y = Tv.int i ∧ (0 ≤ i ∧ i ≤ 20)) (by rw [List.length_map, hrl]; omega) d3 ?_ ?_
    · intro t ht b' S' hb' d' g'
      obtain ⟨n, hn, rfl⟩ := List.mem_map.mp ht
      (try simp only [exs_nil, q_asg, kA_eq, kR_eq, q_drop, kD_eq, q_ret, q_if, kI_t, kI_f, q_set, kS_eq, q_pass, q_brk, q_cont, q_for, kF_eq, List.cons_append, List.nil_append, w_var, t_var, w_int, w_str, w_bl, w_non, w_gl, w_bin, w_neg, t_cmp, w_cmp, t_chain, w_chain, t_isC, w_isC, w_isi, t_isi, t_bop1, t_bop, w_bop1, w_bop, t_nt, w_nt, w_ite, t_ite, w_nil, w_cons, a_tup, w_fz, w_mu, a_disp, a_comp, w_ofSeq, w_call, w_prim, w_ix, w_sl, w_rev, w_pop, w_popAt, w_app, e_nop, e_int, e_var, e_bin, i_seq, a_rng, rngA_int, a_rng2, rngB_int, a_zip, zipA_some, a_enum, enA_some, src_tsI, src_lsI, t_call, t_prim, tru_bl, opt_some, t_nop, List.getElem?_cons_zero, List.getElem?_cons_succ, setTg, setTgs, List.set_cons_zero, List.set_cons_succ, wp_ok, wipeE, len0, len1, len2, len3, len4, len5, len6, len7, len8, len9, len10, if_true, if_false, Bool.false_eq_true, eq_int, ne_int, gt_int, lt_int', le_int', ge_int', add_int, sub_int, abs_int, int_int, Option.map_some, src_lst, src_tup, ix_t0, ix_t1, ix_t2, ix_t3, ix_l0, ix_l1, ix_l2, is_non, and_true, true_and])
      by_cases hp : 0 < n
      · rw [if_pos (decide_eq_true hp)]
        refine pick_wp h8 h87 d' (by omega) (by simp) (by simp) fun u S2 hu d2 g2 => ?_
        refine ⟨?_, d2, g2⟩
        simp only [List.mem_cons, List.not_mem_nil, or_false] at hu
        rcases hu with rfl | rfl | rfl | rfl <;> exact ⟨_, rfl, by omega, by omega⟩
      · rw [if_neg (by simpa using hp)]
        exact ⟨⟨0, rfl, by omega, by omega⟩, d'.mono (by omega), Grow.refl _⟩
    · intro ys S4 hyl hyV d4 g4
      obtain ⟨ss, rfl, hsb⟩ := ints_in (P := fun i => 0 ≤ i ∧ i ≤ 20) (zip_right hyl hyV)
      rw [List.length_map, List.length_map] at hyl
      rw [List.length_map, hrl] at d4
      (try simp only [exs_nil, q_asg, kA_eq, kR_eq, q_drop, kD_eq, q_ret, q_if, kI_t, kI_f, q_set, kS_eq, q_pass, q_brk, q_cont, q_for, kF_eq, List.cons_append, List.nil_append, w_var, t_var, w_int, w_str, w_bl, w_non, w_gl, w_bin, w_neg, t_cmp, w_cmp, t_chain, w_chain, t_isC, w_isC, w_isi, t_isi, t_bop1, t_bop, w_bop1, w_bop, t_nt, w_nt, w_ite, t_ite, w_nil, w_cons, a_tup, w_fz, w_mu, a_disp, a_comp, w_ofSeq, w_call, w_prim, w_ix, w_sl, w_rev, w_pop, w_popAt, w_app, e_nop, e_int, e_var, e_bin, i_seq, a_rng, rngA_int, a_rng2, rngB_int, a_zip, zipA_some, a_enum, enA_some, src_tsI, src_lsI, t_call, t_prim, tru_bl, opt_some, t_nop, List.getElem?_cons_zero, List.getElem?_cons_succ, setTg, setTgs, List.set_cons_zero, List.set_cons_succ, wp_ok, wipeE, len0, len1, len2, len3, len4, len5, len6, len7, len8, len9, len10, if_true, if_false, Bool.false_eq_true, eq_int, ne_int, gt_int, lt_int', le_int', ge_int', add_int, sub_int, abs_int, int_int, Option.map_some, src_lst, src_tup, ix_t0, ix_t1, ix_t2, ix_t3, ix_l0, ix_l1, ix_l2, is_non, and_true, true_and, tup_lst, lr])
      have m3 : ∀ n : Int, n ∈ rs → ∀ S, binV .mul S (.int 3) (.int n) = some (.int (3 * n)) := fun n hn S => mul_int (by
        have := log_small (hrb n hn).1 (by have := (hrb n hn).2; omega)
        have : (3 : Int).natAbs.log2 ≤ 10 := by decide
        omega)
      rw [comp_all (fun n => Tv.int (3 * n)) rfl (fun n hn => by (try simp only [exs_nil, q_asg, kA_eq, kR_eq, q_drop, kD_eq, q_ret, q_if, kI_t, kI_f, q_set, kS_eq, q_pass, q_brk, q_cont, q_for, kF_eq, List.cons_append, List.nil_append, w_var, t_var, w_int, w_str, w_bl, w_non, w_gl, w_bin, w_neg, t_cmp, w_cmp, t_chain, w_chain, t_isC, w_isC, w_isi, t_isi, t_bop1, t_bop, w_bop1, w_bop, t_nt, w_nt, w_ite, t_ite, w_nil, w_cons, a_tup, w_fz, w_mu, a_disp, a_comp, w_ofSeq, w_call, w_prim, w_ix, w_sl, w_rev, w_pop, w_popAt, w_app, e_nop, e_int, e_var, e_bin, i_seq, a_rng, rngA_int, a_rng2, rngB_int, a_zip, zipA_some, a_enum, enA_some, src_tsI, src_lsI, t_call, t_prim, tru_bl, opt_some, t_nop, List.getElem?_cons_zero, List.getElem?_cons_succ, setTg, setTgs, List.set_cons_zero, List.set_cons_succ, wp_ok, wipeE, len0, len1, len2, len3, len4, len5, len6, len7, len8, len9, len10, if_true, if_false, Bool.false_eq_true, eq_int, ne_int, gt_int, lt_int', le_int', ge_int', add_int, sub_int, abs_int, int_int, Option.map_some, src_lst, src_tup, ix_t0, ix_t1, ix_t2, ix_t3, ix_l0, ix_l1, ix_l2, is_non, and_true, true_and, m3 n hn]))]
      (try simp only [exs_nil, q_asg, kA_eq, kR_eq, q_drop, kD_eq, q_ret, q_if, kI_t, kI_f, q_set, kS_eq, q_pass, q_brk, q_cont, q_for, kF_eq, List.cons_append, List.nil_append, w_var, t_var, w_int, w_str, w_bl, w_non, w_gl, w_bin, w_neg, t_cmp, w_cmp, t_chain, w_chain, t_isC, w_isC, w_isi, t_isi, t_bop1, t_bop, w_bop1, w_bop, t_nt, w_nt, w_ite, t_ite, w_nil, w_cons, a_tup, w_fz, w_mu, a_disp, a_comp, w_ofSeq, w_call, w_prim, w_ix, w_sl, w_rev, w_pop, w_popAt, w_app, e_nop, e_int, e_var, e_bin, i_seq, a_rng, rngA_int, a_rng2, rngB_int, a_zip, zipA_some, a_enum, enA_some, src_tsI, src_lsI, t_call, t_prim, tru_bl, opt_some, t_nop, List.getElem?_cons_zero, List.getElem?_cons_succ, setTg, setTgs, List.set_cons_zero, List.set_cons_succ, wp_ok, wipeE, len0, len1, len2, len3, len4, len5, len6, len7, len8, len9, len10, if_true, if_false, Bool.false_eq_true, eq_int, ne_int, gt_int, lt_int', le_int', ge_int', add_int, sub_int, abs_int, int_int, Option.map_some, src_lst, src_tup, ix_t0, ix_t1, ix_t2, ix_t3, ix_l0, ix_l1, ix_l2, is_non, and_true, true_and, tup_lst])
      have e3 : (rs.map fun n => Tv.int (3 * n)) = (rs.map fun n => 3 * n).map Tv.int := by rw [List.map_map]; rfl
      rw [e3]
      generalize hts : (rs.map fun n => 3 * n) = ts
      generalize hzs : List.replicate m (0 : Int) = zs
      have lz : zs.length = m := by rw [← hzs, List.length_replicate]
      have lt : ts.length = m := by rw [← hts, List.length_map, hrl]
      have ls : ss.length = m := by rw [hyl, hrl]
      have bz : ∀ z ∈ zs, 0 ≤ z ∧ z ≤ 1000 := fun z hz => by
        rw [← hzs] at hz
        rw [List.eq_of_mem_replicate hz]
        decide
      have bt : ∀ z ∈ ts, 0 ≤ z ∧ z ≤ 1000 := fun z hz => by
        rw [← hts] at hz
        obtain ⟨n, hn, rfl⟩ := List.mem_map.mp hz
        have := hrb n hn
        omega
      have bw : ∀ z ∈ ws, 0 ≤ z ∧ z ≤ 1000 := fun z hz => by have := hwb z hz; omega
      have br : ∀ z ∈ rs, 0 ≤ z ∧ z ≤ 1000 := fun z hz => by have := hrb z hz; omega
      have bs : ∀ z ∈ ss, 0 ≤ z ∧ z ≤ 1000 := fun z hz => by have := hsb z hz; omega
      have key : ∀ (D : Po) (L : List (List Int × List Int)) (e0 e1 e2 e3 e4 e5 e6 e7 e8 j9 j10 j11 e12 e13 : Option Tv), (∀ p ∈ L, (p.1.length = m ∧ p.2.length = m) ∧ (∀ z ∈ p.1, 0 ≤ z ∧ z ≤ 1000) ∧ ∀ z ∈ p.2, 0 ≤ z ∧ z ≤ 1000) → (∀ j9 j10 j11, D.nx [e0, e1, e2, e3, e4, e5, e6, e7, e8, j9, j10, j11, e12, e13] S4) →
          (forL [] (.tup [.v 9, .v 10]) (exs cf Fu [.asg (.v 11) (.call 12 [(.var 9), (.var 10)]),
            .ifS (.cmp .ne (.prim .repr [(.call 5 [(.var 9), (.var 10)])]) (.prim .repr [(.ite (.cmp .ne (.var 11) (.tup [])) (.var 11) .non)]))
              [.ret (.bl false)] []]) (L.map prT) [e0, e1, e2, e3, e4, e5, e6, e7, e8, j9, j10, j11, e12, e13] S4).wp D := by
        intro D L e0 e1 e2 e3 e4 e5 e6 e7 e8 j9 j10 j11 e12 e13 hL hD
        refine for_on (fun dn r env S => S = S4 ∧ ∃ j9 j10 j11, env = [e0, e1, e2, e3, e4, e5, e6, e7, e8, j9, j10, j11, e12, e13]) (fun _ _ _ _ _ => rfl) ?_ ?_ ⟨rfl, _, _, _, rfl⟩
        · rintro dn p r env S hp ⟨rfl, j9, j10, j11, rfl⟩
          obtain ⟨⟨l1, l2⟩, b1, b2⟩ := hL p (by rw [hp]; simp)
          obtain ⟨us, vs⟩ := p
          dsimp only at l1 l2 b1 b2
          have hb : ∀ q ∈ us.zip vs, (0 ≤ q.1 ∧ q.1 ≤ 1000) ∧ 0 ≤ q.2 ∧ q.2 ≤ 1000 := fun q hq => ⟨b1 _ (List.of_mem_zip hq).1, b2 _ (List.of_mem_zip hq).2⟩
          obtain ⟨t, ht, hT⟩ := h5 S us vs (by rw [l1, l2]) (by omega) hb
          obtain ⟨u, hu, hU⟩ := h12 S us vs (by rw [l1, l2]) (by omega) hb
          rcases spread_same hb hT hU with ⟨rfl, rfl⟩ | ⟨a, b, ha, hb', rfl, rfl⟩
          · have c1 : cmpV .ne S (.tup []) (.tup []) = some false := by simp [cmpV, eqS, eqS0, thaw, Tv.dOk, Tv.dOks, Tv.eqb, Tv.eqbs]
            (try simp only [exs_nil, q_asg, kA_eq, kR_eq, q_drop, kD_eq, q_ret, q_if, kI_t, kI_f, q_set, kS_eq, q_pass, q_brk, q_cont, q_for, kF_eq, List.cons_append, List.nil_append, w_var, t_var, w_int, w_str, w_bl, w_non, w_gl, w_bin, w_neg, t_cmp, w_cmp, t_chain, w_chain, t_isC, w_isC, w_isi, t_isi, t_bop1, t_bop, w_bop1, w_bop, t_nt, w_nt, w_ite, t_ite, w_nil, w_cons, a_tup, w_fz, w_mu, a_disp, a_comp, w_ofSeq, w_call, w_prim, w_ix, w_sl, w_rev, w_pop, w_popAt, w_app, e_nop, e_int, e_var, e_bin, i_seq, a_rng, rngA_int, a_rng2, rngB_int, a_zip, zipA_some, a_enum, enA_some, src_tsI, src_lsI, t_call, t_prim, tru_bl, opt_some, t_nop, List.getElem?_cons_zero, List.getElem?_cons_succ, setTg, setTgs, List.set_cons_zero, List.set_cons_succ, wp_ok, wipeE, len0, len1, len2, len3, len4, len5, len6, len7, len8, len9, len10, if_true, if_false, Bool.false_eq_true, eq_int, ne_int, gt_int, lt_int', le_int', ge_int', add_int, sub_int, abs_int, int_int, Option.map_some, src_lst, src_tup, ix_t0, ix_t1, ix_t2, ix_t3, ix_l0, ix_l1, ix_l2, is_non, and_true, true_and, prT, hu, ht, c1, repr_ok (S := S) (t := .non) rfl rfl (by decide), ne_str])
            exact ⟨_, _, _, rfl⟩
          · have q1 := log_of_lt (n := 20) ha.1 (by omega) (by decide)
            have q2 := log_of_lt (n := 20) hb'.1 (by omega) (by decide)
            have rp : primV .repr S [.tup [.int a, .int b]] = some (.str (Tv.shown (.tup [.int a, .int b]))) := repr_ok rfl (by simp [Tv.rOk, Tv.rOks]; omega) (by simp [Tv.bulk, Tv.bulks])
            have c1 : cmpV .ne S (.tup [.int a, .int b]) (.tup []) = some true := by simp [cmpV, eqS, eqS0, thaw, Tv.dOk, Tv.dOks, Tv.eqb, Tv.eqbs]
            (try simp only [exs_nil, q_asg, kA_eq, kR_eq, q_drop, kD_eq, q_ret, q_if, kI_t, kI_f, q_set, kS_eq, q_pass, q_brk, q_cont, q_for, kF_eq, List.cons_append, List.nil_append, w_var, t_var, w_int, w_str, w_bl, w_non, w_gl, w_bin, w_neg, t_cmp, w_cmp, t_chain, w_chain, t_isC, w_isC, w_isi, t_isi, t_bop1, t_bop, w_bop1, w_bop, t_nt, w_nt, w_ite, t_ite, w_nil, w_cons, a_tup, w_fz, w_mu, a_disp, a_comp, w_ofSeq, w_call, w_prim, w_ix, w_sl, w_rev, w_pop, w_popAt, w_app, e_nop, e_int, e_var, e_bin, i_seq, a_rng, rngA_int, a_rng2, rngB_int, a_zip, zipA_some, a_enum, enA_some, src_tsI, src_lsI, t_call, t_prim, tru_bl, opt_some, t_nop, List.getElem?_cons_zero, List.getElem?_cons_succ, setTg, setTgs, List.set_cons_zero, List.set_cons_succ, wp_ok, wipeE, len0, len1, len2, len3, len4, len5, len6, len7, len8, len9, len10, if_true, if_false, Bool.false_eq_true, eq_int, ne_int, gt_int, lt_int', le_int', ge_int', add_int, sub_int, abs_int, int_int, Option.map_some, src_lst, src_tup, ix_t0, ix_t1, ix_t2, ix_t3, ix_l0, ix_l1, ix_l2, is_non, and_true, true_and, prT, hu, ht, c1, rp, ne_str])
            exact ⟨_, _, _, rfl⟩
        · rintro env S ⟨rfl, j9, j10, j11, rfl⟩
          exact hD _ _ _
      refine key _ [(ws, rs), (ss, rs), (zs, rs), (ws, zs), (rs, ts), (ss, ts)] _ _ _ _ _ _ _ _ _ _ _ _ _ _ ?_ ?_
      · intro p hp
        simp only [List.mem_cons, List.not_mem_nil, or_false] at hp
        rcases hp with rfl | rfl | rfl | rfl | rfl | rfl <;> refine ⟨⟨?_, ?_⟩, ?_, ?_⟩ <;> assumption
      · intro j9 j10 j11
        (try simp only [exs_nil, q_asg, kA_eq, kR_eq, q_drop, kD_eq, q_ret, q_if, kI_t, kI_f, q_set, kS_eq, q_pass, q_brk, q_cont, q_for, kF_eq, List.cons_append, List.nil_append, w_var, t_var, w_int, w_str, w_bl, w_non, w_gl, w_bin, w_neg, t_cmp, w_cmp, t_chain, w_chain, t_isC, w_isC, w_isi, t_isi, t_bop1, t_bop, w_bop1, w_bop, t_nt, w_nt, w_ite, t_ite, w_nil, w_cons, a_tup, w_fz, w_mu, a_disp, a_comp, w_ofSeq, w_call, w_prim, w_ix, w_sl, w_rev, w_pop, w_popAt, w_app, e_nop, e_int, e_var, e_bin, i_seq, a_rng, rngA_int, a_rng2, rngB_int, a_zip, zipA_some, a_enum, enA_some, src_tsI, src_lsI, t_call, t_prim, tru_bl, opt_some, t_nop, List.getElem?_cons_zero, List.getElem?_cons_succ, setTg, setTgs, List.set_cons_zero, List.set_cons_succ, wp_ok, wipeE, len0, len1, len2, len3, len4, len5, len6, len7, len8, len9, len10, if_true, if_false, Bool.false_eq_true, eq_int, ne_int, gt_int, lt_int', le_int', ge_int', add_int, sub_int, abs_int, int_int, Option.map_some, src_lst, src_tup, ix_t0, ix_t1, ix_t2, ix_t3, ix_l0, ix_l1, ix_l2, is_non, and_true, true_and])
        refine ⟨d4.mono (by rw [List.length_append, List.length_singleton]; omega), by rw [List.length_append, List.length_singleton]; omega, _, _, _, _, _, _, _, _, _, _, _, _, rfl⟩
  · rintro env S ⟨d, hlen, j2, j3, j4, j5, j6, j7, j8, j9, j10, j11, j12, j13, rfl⟩
    (try simp only [exs_nil, q_asg, kA_eq, kR_eq, q_drop, kD_eq, q_ret, q_if, kI_t, kI_f, q_set, kS_eq, q_pass, q_brk, q_cont, q_for, kF_eq, List.cons_append, List.nil_append, w_var, t_var, w_int, w_str, w_bl, w_non, w_gl, w_bin, w_neg, t_cmp, w_cmp, t_chain, w_chain, t_isC, w_isC, w_isi, t_isi, t_bop1, t_bop, w_bop1, w_bop, t_nt, w_nt, w_ite, t_ite, w_nil, w_cons, a_tup, w_fz, w_mu, a_disp, a_comp, w_ofSeq, w_call, w_prim, w_ix, w_sl, w_rev, w_pop, w_popAt, w_app, e_nop, e_int, e_var, e_bin, i_seq, a_rng, rngA_int, a_rng2, rngB_int, a_zip, zipA_some, a_enum, enA_some, src_tsI, src_lsI, t_call, t_prim, tru_bl, opt_some, t_nop, List.getElem?_cons_zero, List.getElem?_cons_succ, setTg, setTgs, List.set_cons_zero, List.set_cons_succ, wp_ok, wipeE, len0, len1, len2, len3, len4, len5, len6, len7, len8, len9, len10, if_true, if_false, Bool.false_eq_true, eq_int, ne_int, gt_int, lt_int', le_int', ge_int', add_int, sub_int, abs_int, int_int, Option.map_some, src_lst, src_tup, ix_t0, ix_t1, ix_t2, ix_t3, ix_l0, ix_l1, ix_l2, is_non, and_true, true_and])
end Mp
namespace Qr
/-! ### rows of integers, reduced: plain -/
def gcdL : List Int → Nat
  | [] => 0
  | x :: r => Nat.gcd x.natAbs (gcdL r)
def isZ (r : List Int) : Bool := !(r.any fun n => !(n == 0))
/-- the place of the first number other than 0 -/
def fp : List Int → Nat
  | [] => 0
  | x :: r => if x = 0 then fp r + 1 else 0
def at' (r : List Int) (p : Nat) : Int := r.getD p 0
def sg (x : Int) : Int := if 0 < x then 1 else -1
/-- a times r, plus t times o -/
def comb (a t : Int) (r o : List Int) : List Int := List.zipWith (fun x y => a * x + t * y) r o
def step (r o : List Int) : List Int := comb (sg (at' o (fp o)) * at' o (fp o)) (0 - sg (at' o (fp o)) * at' r (fp o)) r o
def clear (r : List Int) : List (List Int) → List Int
  | [] => r
  | o :: R => clear (step r o) R
def low (r : List Int) : List Int := if gcdL r = 0 then r else r.map fun x => x / (gcdL r : Int)
def push (R : List (List Int)) (r : List Int) : List (List Int) := if isZ (low (clear r R)) = true then R else R ++ [low (clear r R)]
def redFrom (R : List (List Int)) : List (List Int) → List (List Int)
  | [] => R
  | r :: rs => redFrom (push R r) rs
def red (rs : List (List Int)) : List (List Int) := redFrom [] rs
def dot : List Int → List Int → Int
  | x :: r, y :: s => x * y + dot r s
  | _, _ => 0
theorem isZ_iff : ∀ {r : List Int}, isZ r = true ↔ ∀ x ∈ r, x = 0 := by
  intro r
  unfold isZ
  rw [Bool.not_eq_true', List.any_eq_false]
  constructor
  · intro h x hx; simpa using h x hx
  · intro h x hx; simp [h x hx]
theorem gcdL_zero : ∀ {r : List Int}, gcdL r = 0 ↔ ∀ x ∈ r, x = 0
  | [] => by simp [gcdL]
  | x :: r => by
    simp only [gcdL, Nat.gcd_eq_zero_iff, gcdL_zero (r := r), List.mem_cons, forall_eq_or_imp]
    rw [Int.natAbs_eq_zero]
theorem gcdL_dvd : ∀ {r : List Int} {x : Int}, x ∈ r → (gcdL r : Int) ∣ x
  | y :: r, x, h => by
    rcases List.mem_cons.mp h with e | e
    · subst e
      exact Int.ofNat_dvd_left.mpr (Nat.gcd_dvd_left _ _)
    · exact Int.dvd_trans (Int.ofNat_dvd.mpr (Nat.gcd_dvd_right _ _)) (gcdL_dvd e)
theorem comb_len {a t : Int} {r o : List Int} (h : r.length = o.length) : (comb a t r o).length = r.length := by
  unfold comb
  rw [List.length_zipWith, h, Nat.min_self]
theorem step_len {r o : List Int} (h : r.length = o.length) : (step r o).length = r.length := comb_len h
theorem clear_len : ∀ {R : List (List Int)} {r : List Int}, (∀ o ∈ R, o.length = r.length) → (clear r R).length = r.length
  | [], r, _ => rfl
  | o :: R, r, h => by
    have e := step_len (r := r) (o := o) (h o List.mem_cons_self).symm
    rw [clear, clear_len (r := step r o) (fun u hu => by rw [e]; exact h u (List.mem_cons_of_mem _ hu)), e]
theorem low_len {r : List Int} : (low r).length = r.length := by
  unfold low
  split
  · rfl
  · rw [List.length_map]
theorem at_comb {a t : Int} : ∀ {r o : List Int} {p : Nat}, r.length = o.length → at' (comb a t r o) p = a * at' r p + t * at' o p
  | [], [], p, _ => by simp [comb, at']
  | x :: r, y :: o, 0, _ => by simp [comb, at']
  | x :: r, y :: o, p + 1, h => by
    have := at_comb (a := a) (t := t) (r := r) (o := o) (p := p) (by simpa using h)
    simpa [comb, at'] using this
theorem at_fp : ∀ {r : List Int}, isZ r = false → at' r (fp r) ≠ 0
  | [], h => by simp [isZ] at h
  | x :: r, h => by
    unfold fp
    by_cases hx : x = 0
    · rw [if_pos hx]
      have h' : isZ r = false := by
        cases hz : isZ r with
        | false => rfl
        | true =>
          rw [isZ_iff] at hz
          have : isZ (x :: r) = true := isZ_iff.mpr fun y hy => by
            rcases List.mem_cons.mp hy with e | e
            · rw [e]; exact hx
            · exact hz y e
          rw [this] at h
          cases h
      have := at_fp h'
      simpa [at'] using this
    · rw [if_neg hx]
      simpa [at'] using hx
theorem fp_lt {r : List Int} (h : isZ r = false) : fp r < r.length := by
  rcases Nat.lt_or_ge (fp r) r.length with k | k
  · exact k
  · have := at_fp h
    unfold at' at this
    rw [List.getD_eq_getElem?_getD, List.getElem?_eq_none k] at this
    exact absurd rfl this
theorem sg_mul {x : Int} : sg x * x = x.natAbs := by
  unfold sg
  split <;> omega
theorem sg_pos {x : Int} (h : x ≠ 0) : 0 < sg x * x := by
  rw [sg_mul]
  omega
theorem at_step_here {r o : List Int} (h : r.length = o.length) : at' (step r o) (fp o) = 0 := by
  unfold step
  rw [at_comb h]
  have e : sg (at' o (fp o)) * at' o (fp o) * at' r (fp o) = sg (at' o (fp o)) * at' r (fp o) * at' o (fp o) := by ac_rfl
  rw [Int.zero_sub, Int.neg_mul, e, Int.add_right_neg]
theorem at_step_zero {r o : List Int} {p : Nat} (h : r.length = o.length) (h1 : at' r p = 0) (h2 : at' o p = 0) : at' (step r o) p = 0 := by
  unfold step
  rw [at_comb h, h1, h2]
  simp
/-- the places of R's first numbers, and of later rows: 0 -/
def Tri (R : List (List Int)) : Prop := R.Pairwise fun o u => at' u (fp o) = 0
theorem clear_keep : ∀ {R : List (List Int)} {r : List Int} {p : Nat}, (∀ o ∈ R, o.length = r.length) → at' r p = 0 → (∀ o ∈ R, at' o p = 0) → at' (clear r R) p = 0
  | [], r, p, _, h, _ => h
  | o :: R, r, p, hl, h, ho => by
    have e := step_len (r := r) (o := o) (hl o List.mem_cons_self).symm
    exact clear_keep (R := R) (r := step r o) (fun u hu => by rw [e]; exact hl u (List.mem_cons_of_mem _ hu)) (at_step_zero (hl o List.mem_cons_self).symm h (ho o List.mem_cons_self)) fun u hu => ho u (List.mem_cons_of_mem _ hu)
theorem clear_zero : ∀ {R : List (List Int)} {r : List Int}, (∀ o ∈ R, o.length = r.length) → Tri R → ∀ o ∈ R, at' (clear r R) (fp o) = 0
  | o :: R, r, hl, ht, u, hu => by
    have e := step_len (r := r) (o := o) (hl o List.mem_cons_self).symm
    have hl' : ∀ u ∈ R, u.length = (step r o).length := fun u hu => by rw [e]; exact hl u (List.mem_cons_of_mem _ hu)
    obtain ⟨h1, h2⟩ := List.pairwise_cons.mp ht
    rcases List.mem_cons.mp hu with z | z
    · subst z
      rw [clear]
      exact clear_keep hl' (at_step_here (hl u List.mem_cons_self).symm) h1
    · exact clear_zero hl' h2 u z
theorem at_map {g : Int} : ∀ {r : List Int} {p : Nat}, at' (r.map fun x => x / g) p = at' r p / g := by
  intro r p
  unfold at'
  rw [List.getD_eq_getElem?_getD, List.getD_eq_getElem?_getD, List.getElem?_map]
  cases r[p]? <;> simp
theorem at_low {r : List Int} {p : Nat} (h : at' r p = 0) : at' (low r) p = 0 := by
  unfold low
  split
  · exact h
  · rw [at_map, h, Int.zero_ediv]
theorem tri_push {R : List (List Int)} {r : List Int} (hl : ∀ o ∈ R, o.length = r.length) (ht : Tri R) : Tri (push R r) := by
  unfold push
  split
  · exact ht
  · refine List.pairwise_append.mpr ⟨ht, List.pairwise_singleton _ _, fun o ho u hu => ?_⟩
    rw [List.mem_singleton.mp hu]
    exact at_low (clear_zero hl ht o ho)
/-! ### signs -/
theorem dot_comb {a t : Int} : ∀ {r o v : List Int}, r.length = o.length → dot (comb a t r o) v = a * dot r v + t * dot o v
  | [], [], v, _ => by cases v <;> simp [comb, dot]
  | x :: r, y :: o, [], _ => by simp [comb, dot]
  | x :: r, y :: o, z :: v, h => by
    have ih := dot_comb (a := a) (t := t) (r := r) (o := o) (v := v) (by simpa using h)
    have e : comb a t (x :: r) (y :: o) = (a * x + t * y) :: comb a t r o := rfl
    rw [e]
    simp only [dot, ih, Int.add_mul, Int.mul_add]
    have e1 : a * x * z = a * (x * z) := Int.mul_assoc _ _ _
    have e2 : t * y * z = t * (y * z) := Int.mul_assoc _ _ _
    rw [e1, e2]
    omega
theorem clear_dot : ∀ {R : List (List Int)} {r : List Int}, (∀ o ∈ R, o.length = r.length ∧ isZ o = false) → ∃ c : Int, 0 < c ∧ ∀ v, (∀ o ∈ R, dot o v = 0) → dot (clear r R) v = c * dot r v
  | [], r, _ => ⟨1, by decide, fun v _ => by rw [Int.one_mul]; rfl⟩
  | o :: R, r, h => by
    have e := step_len (r := r) (o := o) (h o List.mem_cons_self).1.symm
    obtain ⟨c, hc, hd⟩ := clear_dot (R := R) (r := step r o) (fun u hu => by rw [e]; exact h u (List.mem_cons_of_mem _ hu))
    refine ⟨c * (sg (at' o (fp o)) * at' o (fp o)), Int.mul_pos hc (sg_pos (at_fp (h o List.mem_cons_self).2)), fun v hv => ?_⟩
    rw [clear, hd v fun u hu => hv u (List.mem_cons_of_mem _ hu)]
    unfold step
    rw [dot_comb (h o List.mem_cons_self).1.symm, hv o List.mem_cons_self, Int.mul_zero, Int.add_zero, ← Int.mul_assoc]
theorem dot_map {g : Int} : ∀ {r v : List Int}, (∀ x ∈ r, g ∣ x) → g * dot (r.map fun x => x / g) v = dot r v
  | [], v, _ => by cases v <;> simp [dot]
  | x :: r, [], _ => by simp [dot]
  | x :: r, z :: v, h => by
    have ih := dot_map (g := g) (r := r) (v := v) fun y hy => h y (List.mem_cons_of_mem _ hy)
    simp only [List.map_cons, dot, Int.mul_add, ih]
    rw [← Int.mul_assoc, Int.mul_ediv_cancel' (h x List.mem_cons_self)]
theorem low_dot {r : List Int} : ∃ g : Int, 0 < g ∧ ∀ v, dot r v = g * dot (low r) v := by
  unfold low
  split
  · exact ⟨1, by decide, fun v => by rw [Int.one_mul]⟩
  · exact ⟨gcdL r, by omega, fun v => (dot_map fun x hx => gcdL_dvd hx).symm⟩
theorem dot_isZ : ∀ {r v : List Int}, (∀ x ∈ r, x = 0) → dot r v = 0
  | [], v, _ => by cases v <;> rfl
  | x :: r, [], _ => rfl
  | x :: r, z :: v, h => by
    rw [dot, h x List.mem_cons_self, dot_isZ fun y hy => h y (List.mem_cons_of_mem _ hy)]
    simp
/-- the sign of the first row that is not 0 there -/
def lex (v : List Int) : List (List Int) → Int
  | [] => 0
  | r :: R => if dot r v = 0 then lex v R else (dot r v).sign
theorem lex_app {v : List Int} : ∀ {R T : List (List Int)}, lex v (R ++ T) = if lex v R = 0 then lex v T else lex v R
  | [], T => by simp [lex]
  | r :: R, T => by
    by_cases h : dot r v = 0
    · have e1 : lex v (r :: R ++ T) = lex v (R ++ T) := by rw [List.cons_append]; simp only [lex]; rw [if_pos h]
      have e2 : lex v (r :: R) = lex v R := by simp only [lex]; rw [if_pos h]
      rw [e1, e2]
      exact lex_app
    · have e1 : lex v (r :: R ++ T) = (dot r v).sign := by rw [List.cons_append]; simp only [lex]; rw [if_neg h]
      have e2 : lex v (r :: R) = (dot r v).sign := by simp only [lex]; rw [if_neg h]
      rw [e1, e2, if_neg (by rw [Int.sign_eq_zero_iff_zero]; exact h)]
theorem lex_zero {v : List Int} : ∀ {R : List (List Int)}, lex v R = 0 ↔ ∀ r ∈ R, dot r v = 0
  | [] => by simp [lex]
  | r :: R => by
    simp only [List.mem_cons, forall_eq_or_imp]
    by_cases h : dot r v = 0
    · have e2 : lex v (r :: R) = lex v R := by simp only [lex]; rw [if_pos h]
      rw [e2, lex_zero]
      exact ⟨fun k => ⟨h, k⟩, fun k => k.2⟩
    · have e2 : lex v (r :: R) = (dot r v).sign := by simp only [lex]; rw [if_neg h]
      rw [e2, Int.sign_eq_zero_iff_zero]
      exact ⟨fun k => absurd k h, fun k => absurd k.1 h⟩
theorem lex_push {R : List (List Int)} {r : List Int} (h : ∀ o ∈ R, o.length = r.length ∧ isZ o = false) (v : List Int) : lex v (push R r) = lex v (R ++ [r]) := by
  obtain ⟨c, hc, hd⟩ := clear_dot h
  obtain ⟨g, hg, hl⟩ := low_dot (r := clear r R)
  rw [lex_app]
  by_cases hz : lex v R = 0
  · rw [if_pos hz]
    have hv := lex_zero.mp hz
    have e : c * dot r v = g * dot (low (clear r R)) v := by rw [← hd v hv, hl v]
    have s : (dot r v).sign = (dot (low (clear r R)) v).sign := by
      have := congrArg Int.sign e
      rw [Int.sign_mul, Int.sign_mul, Int.sign_eq_one_of_pos hc, Int.sign_eq_one_of_pos hg, Int.one_mul, Int.one_mul] at this
      exact this
    have z : dot r v = 0 ↔ dot (low (clear r R)) v = 0 := by rw [← Int.sign_eq_zero_iff_zero, s, Int.sign_eq_zero_iff_zero]
    unfold push
    split
    · rename_i hq
      have : dot (low (clear r R)) v = 0 := dot_isZ (isZ_iff.mp hq)
      rw [hz]
      simp only [lex]
      rw [if_pos (z.mpr this)]
    · rw [lex_app, if_pos hz]
      simp only [lex]
      by_cases k : dot r v = 0
      · rw [if_pos k, if_pos (z.mp k)]
      · rw [if_neg k, if_neg (fun q => k (z.mpr q)), s]
  · rw [if_neg hz]
    unfold push
    split
    · rfl
    · rw [lex_app, if_neg hz]
/-- reduced rows: of one length, not 0, 0 at the first places of earlier ones -/
structure Ok (n : Nat) (R : List (List Int)) : Prop where
  len : ∀ o ∈ R, o.length = n
  nz : ∀ o ∈ R, isZ o = false
  tri : Tri R
theorem Ok.push {n : Nat} {R : List (List Int)} {r : List Int} (h : Ok n R) (hr : r.length = n) : Ok n (push R r) := by
  have hl : ∀ o ∈ R, o.length = r.length := fun o ho => by rw [h.len o ho, hr]
  refine ⟨fun o ho => ?_, fun o ho => ?_, tri_push hl h.tri⟩
  · unfold Qr.push at ho
    split at ho
    · exact h.len o ho
    · rcases List.mem_append.mp ho with k | k
      · exact h.len o k
      · rw [List.mem_singleton.mp k, low_len, clear_len hl, hr]
  · unfold Qr.push at ho
    split at ho
    · exact h.nz o ho
    · rename_i hq
      rcases List.mem_append.mp ho with k | k
      · exact h.nz o k
      · rw [List.mem_singleton.mp k]
        simpa using hq
theorem redFrom_ok {n : Nat} : ∀ {rs R : List (List Int)}, Ok n R → (∀ r ∈ rs, r.length = n) → Ok n (redFrom R rs)
  | [], R, h, _ => h
  | r :: rs, R, h, hr => by
    rw [redFrom]
    exact redFrom_ok (h.push (hr r List.mem_cons_self)) fun u hu => hr u (List.mem_cons_of_mem _ hu)
theorem Ok.nil {n : Nat} : Ok n [] := ⟨fun o h => (List.not_mem_nil h).elim, fun o h => (List.not_mem_nil h).elim, List.Pairwise.nil⟩
theorem red_ok {n : Nat} {rs : List (List Int)} (h : ∀ r ∈ rs, r.length = n) : Ok n (red rs) := redFrom_ok Ok.nil h
theorem lex_redFrom {n : Nat} {v : List Int} : ∀ {rs R : List (List Int)}, Ok n R → (∀ r ∈ rs, r.length = n) → lex v (redFrom R rs) = lex v (R ++ rs)
  | [], R, h, _ => by rw [redFrom, List.append_nil]
  | r :: rs, R, h, hr => by
    rw [redFrom, lex_redFrom (h.push (hr r List.mem_cons_self)) fun u hu => hr u (List.mem_cons_of_mem _ hu)]
    have e : R ++ r :: rs = (R ++ [r]) ++ rs := by simp
    rw [e, lex_app, lex_app (R := R ++ [r]), lex_push (fun o ho => ⟨by rw [h.len o ho, hr r List.mem_cons_self], h.nz o ho⟩)]
theorem lex_red {n : Nat} {v : List Int} {rs : List (List Int)} (h : ∀ r ∈ rs, r.length = n) : lex v (red rs) = lex v rs := by
  unfold red
  rw [lex_redFrom Ok.nil h, List.nil_append]
/-! ### reduced rows reduce to themselves -/
theorem gcdL_mul {k : Int} : ∀ {r : List Int}, gcdL (r.map fun x => k * x) = k.natAbs * gcdL r
  | [] => by simp [gcdL]
  | x :: r => by
    simp only [List.map_cons, gcdL, gcdL_mul (k := k) (r := r), Int.natAbs_mul]
    exact Nat.gcd_mul_left _ _ _
theorem low_mul {k : Int} (hk : 0 < k) {r : List Int} : low (r.map fun x => k * x) = low r := by
  unfold low
  have e : (k.natAbs : Int) = k := by omega
  rw [gcdL_mul]
  by_cases h : gcdL r = 0
  · rw [if_pos (by rw [h, Nat.mul_zero]), if_pos h]
    have hz := gcdL_zero.mp h
    rw [List.map_eq_iff]
    intro i
    cases hi : r[i]? with
    | none => rfl
    | some x =>
      have : x = 0 := hz x (List.mem_of_getElem? hi)
      rw [this]
      simp
  · rw [if_neg h, if_neg (Nat.mul_ne_zero (by omega) h), List.map_map]
    apply List.map_congr_left
    intro x hx
    show k * x / ((k.natAbs * gcdL r : Nat) : Int) = x / (gcdL r : Int)
    rw [Int.natCast_mul, e, Int.mul_ediv_mul_of_pos _ _ hk]
theorem gcdL_low {r : List Int} (h : gcdL r ≠ 0) : gcdL (low r) = 1 := by
  have e : r = (low r).map fun x => (gcdL r : Int) * x := by
    unfold low
    rw [if_neg h, List.map_map]
    conv => lhs; rw [← List.map_id r]
    apply List.map_congr_left
    intro x hx
    show x = (gcdL r : Int) * (x / (gcdL r : Int))
    rw [Int.mul_ediv_cancel' (gcdL_dvd hx)]
  have e2 := congrArg gcdL e
  rw [gcdL_mul] at e2
  have e3 : ((gcdL r : Nat) : Int).natAbs = gcdL r := by simp
  rw [e3] at e2
  have hp : 0 < gcdL r := by omega
  exact (Nat.eq_of_mul_eq_mul_left hp (by omega : gcdL r * gcdL (low r) = gcdL r * 1))
theorem low_prim {r : List Int} (h : gcdL r = 1) : low r = r := by
  unfold low
  rw [if_neg (by omega), h]
  simp
theorem zip_zero {c : Int} : ∀ {r o : List Int}, r.length = o.length → List.zipWith (fun x y => c * x + 0 * y) r o = r.map fun x => c * x
  | [], [], _ => rfl
  | x :: r, y :: o, h => by
    rw [List.zipWith_cons_cons, List.map_cons, zip_zero (r := r) (o := o) (by simpa using h), Int.zero_mul, Int.add_zero]
theorem step_zero {r o : List Int} (hl : r.length = o.length) (h : at' r (fp o) = 0) : step r o = r.map fun x => (sg (at' o (fp o)) * at' o (fp o)) * x := by
  unfold step
  rw [h, Int.mul_zero, Int.sub_zero]
  exact zip_zero hl
theorem at_mul {c : Int} {r : List Int} {p : Nat} (h : at' r p = 0) : at' (r.map fun x => c * x) p = 0 := by
  unfold at' at *
  rw [List.getD_eq_getElem?_getD] at *
  rw [List.getElem?_map]
  cases e : r[p]? with
  | none => rfl
  | some x =>
    rw [e] at h
    have h : x = 0 := h
    rw [h]
    simp
theorem clear_tri : ∀ {R : List (List Int)} {r : List Int}, (∀ o ∈ R, o.length = r.length ∧ isZ o = false) → (∀ o ∈ R, at' r (fp o) = 0) → ∃ c : Int, 0 < c ∧ clear r R = r.map fun x => c * x
  | [], r, _, _ => ⟨1, by decide, by simp [clear]⟩
  | o :: R, r, h, hz => by
    have e := step_zero (h o List.mem_cons_self).1.symm (hz o List.mem_cons_self)
    have hc := sg_pos (at_fp (h o List.mem_cons_self).2)
    generalize sg (at' o (fp o)) * at' o (fp o) = k at e hc
    obtain ⟨c, hc', he⟩ := clear_tri (R := R) (r := step r o) (fun u hu => by rw [step_len (h o List.mem_cons_self).1.symm]; exact h u (List.mem_cons_of_mem _ hu))
      (fun u hu => by rw [e]; exact at_mul (hz u (List.mem_cons_of_mem _ hu)))
    refine ⟨c * k, Int.mul_pos hc' hc, ?_⟩
    rw [clear, he, e, List.map_map]
    apply List.map_congr_left
    intro x _
    show c * (k * x) = c * k * x
    rw [Int.mul_assoc]
/-- rows that are reduced -/
structure Full (n : Nat) (R : List (List Int)) : Prop extends Ok n R where
  prim : ∀ o ∈ R, gcdL o = 1
theorem Full.push {n : Nat} {R : List (List Int)} {r : List Int} (h : Full n R) (hr : r.length = n) : Full n (push R r) := by
  refine ⟨h.toOk.push hr, fun o ho => ?_⟩
  unfold Qr.push at ho
  split at ho
  · exact h.prim o ho
  · rename_i hq
    rcases List.mem_append.mp ho with k | k
    · exact h.prim o k
    · rw [List.mem_singleton.mp k]
      refine gcdL_low fun z => hq ?_
      have e : low (Qr.clear r R) = Qr.clear r R := by unfold low; rw [if_pos z]
      rw [e]
      exact isZ_iff.mpr (gcdL_zero.mp z)
theorem redFrom_full {n : Nat} : ∀ {rs R : List (List Int)}, Full n R → (∀ r ∈ rs, r.length = n) → Full n (redFrom R rs)
  | [], R, h, _ => h
  | r :: rs, R, h, hr => by
    rw [redFrom]
    exact redFrom_full (h.push (hr r List.mem_cons_self)) fun u hu => hr u (List.mem_cons_of_mem _ hu)
theorem red_full {n : Nat} {rs : List (List Int)} (h : ∀ r ∈ rs, r.length = n) : Full n (red rs) := redFrom_full ⟨Ok.nil, fun o h => (List.not_mem_nil h).elim⟩ h
theorem redFrom_same {n : Nat} : ∀ {rs R : List (List Int)}, Full n (R ++ rs) → redFrom R rs = R ++ rs
  | [], R, _ => by rw [redFrom, List.append_nil]
  | r :: rs, R, h => by
    have mr : r ∈ R ++ r :: rs := by simp
    have tri := List.pairwise_append.mp h.tri
    obtain ⟨c, hc, he⟩ := clear_tri (R := R) (r := r) (fun o ho => ⟨by rw [h.len o (List.mem_append_left _ ho), h.len r mr], h.nz o (List.mem_append_left _ ho)⟩) fun o ho => tri.2.2 o ho r List.mem_cons_self
    have e : low (Qr.clear r R) = r := by rw [he, low_mul hc, low_prim (h.prim r mr)]
    have p : Qr.push R r = R ++ [r] := by
      unfold Qr.push
      rw [e, if_neg (by rw [h.nz r mr]; decide)]
    rw [redFrom, p, redFrom_same (R := R ++ [r]) (by simpa using h)]
    simp
theorem red_red {n : Nat} {rs : List (List Int)} (h : ∀ r ∈ rs, r.length = n) : red (red rs) = red rs := by
  have := redFrom_same (R := []) (rs := red rs) (n := n) (by rw [List.nil_append]; exact red_full h)
  rwa [List.nil_append] at this
end Qr
namespace Mp
/-! ### sizes -/
def Bd (k : Nat) (x : Int) : Prop := x.natAbs < 2 ^ k
theorem Bd.mono {k l : Nat} {x : Int} (h : Bd k x) (hl : k ≤ l) : Bd l x := Nat.lt_of_lt_of_le h (Nat.pow_le_pow_right (by decide) hl)
theorem Bd.log {k : Nat} {x : Int} (h : Bd k x) : x.natAbs.log2 ≤ k := by
  by_cases hz : x.natAbs = 0
  · rw [hz]
    show Nat.log2 0 ≤ k
    rw [Nat.log2_zero]
    omega
  · exact Nat.le_of_lt ((Nat.log2_lt hz).mpr h)
theorem Bd.mul {k l : Nat} {x y : Int} (h : Bd k x) (g : Bd l y) : Bd (k + l) (x * y) := by
  unfold Bd
  rw [Int.natAbs_mul, Nat.pow_add]
  exact Nat.mul_lt_mul'' h g
theorem Bd.add {k : Nat} {x y : Int} (h : Bd k x) (g : Bd k y) : Bd (k + 1) (x + y) := by
  unfold Bd at *
  have := Int.natAbs_add_le x y
  rw [Nat.pow_succ]
  omega
theorem Bd.neg {k : Nat} {x : Int} (h : Bd k x) : Bd k (-x) := by
  unfold Bd at *
  rw [Int.natAbs_neg]
  exact h
theorem Bd.of {k : Nat} {x : Int} {m : Nat} (h : x.natAbs ≤ m) (hm : m < 2 ^ k) : Bd k x := Nat.lt_of_le_of_lt h hm
theorem Bd.sg {x : Int} : Bd 1 (Qr.sg x) := by
  unfold Qr.sg Bd
  split <;> decide
theorem mul_bd {k l : Nat} {x y : Int} (h : Bd k x) (g : Bd l y) (hs : k + l ≤ 900000) {S : Sto} : binV .mul S (.int x) (.int y) = some (.int (x * y)) :=
  mul_int (by have := h.log; have := g.log; omega)
theorem gmu_bd {o f k : Nat} (ho : o < 2 ^ k) (hf : f < 2 ^ k) : gmu o f ≤ 2 * k + 2 := by
  unfold gmu
  by_cases h : o = 0
  · rw [if_pos h]; omega
  · rw [if_neg h]
    have h2 : (o * f).log2 ≤ 2 * k := by
      by_cases hz : o * f = 0
      · rw [hz, Nat.log2_zero]; omega
      · refine Nat.le_of_lt ((Nat.log2_lt hz).mpr ?_)
        rw [Nat.two_mul, Nat.pow_add]
        exact Nat.mul_lt_mul'' ho hf
    split <;> omega
theorem gcdF_eq : ∀ (ns : List Int) (f : Nat), gcdF f ns = Nat.gcd f (Qr.gcdL ns)
  | [], f => by simp [gcdF, Qr.gcdL]
  | n :: r, f => by
    rw [gcdF, gcdF_eq r, Qr.gcdL, Nat.gcd_comm n.natAbs f, Nat.gcd_assoc]
theorem gcdF0 (ns : List Int) : gcdF 0 ns = Qr.gcdL ns := by rw [gcdF_eq, Nat.gcd_zero_left]
theorem pow_pred {k : Nat} {n : Nat} (h : n < 2 ^ k) : n ≤ 2 ^ k - 1 := by omega
/-- the divisor of the program, of a row or a list -/
theorem divisor_bd {cf : Nat → List Tv → M Tv} {S : Sto} {ns : List Int} {k : Nat} (hb : ∀ n ∈ ns, Bd k n) (hk : k ≤ 90000) : runD cf xDivisor [tsI ns] S = .ok (.int (Qr.gcdL ns)) S := by
  rw [← gcdF0]
  refine divisor_ok (B := 2 ^ k - 1) (fun n hn f hf => ?_) fun n hn => pow_pred (hb n hn)
  have hp : 0 < 2 ^ k := Nat.two_pow_pos k
  have := gmu_bd (o := n.natAbs) (f := f) (k := k) (hb n hn) (by omega)
  have : Fu = 1000000000 := rfl
  omega
theorem lawDivisor_bd {cf : Nat → List Tv → M Tv} {S : Sto} {ns : List Int} {k : Nat} {src : Tv} (hs : srcOf S src = some (ns.map Tv.int, [])) (hb : ∀ n ∈ ns, Bd k n) (hk : k ≤ 990) : runD cf xLawDivisor [src] S = .ok (.int (Qr.gcdL ns)) S := by
  rw [← gcdF0]
  refine lawDivisor_src hs (B := 2 ^ k - 1) (fun n hn f hf => ?_) fun n hn => pow_pred (hb n hn)
  have hp : 0 < 2 ^ k := Nat.two_pow_pos k
  have := gmu_bd (o := n.natAbs) (f := f) (k := k) (hb n hn) (by omega)
  omega
theorem gcdL_bd {ns : List Int} {k : Nat} (hb : ∀ n ∈ ns, Bd k n) : Qr.gcdL ns < 2 ^ k := by
  by_cases h : Qr.gcdL ns = 0
  · rw [h]; exact Nat.two_pow_pos k
  · have : ¬ ∀ x ∈ ns, x = 0 := fun z => h (Qr.gcdL_zero.mpr z)
    obtain ⟨x, hx⟩ := Classical.not_forall.mp this
    obtain ⟨hm, hn⟩ := Classical.not_imp.mp hx
    have := Nat.le_of_dvd (by omega) (Int.ofNat_dvd_left.mp (Qr.gcdL_dvd hm))
    exact Nat.lt_of_le_of_lt this (hb x hm)
/-- a row divided by its divisor: of tuples and of lists -/
theorem lowest_bd {cf : Nat → List Tv → M Tv} {d : Nat} {S : Sto} {ns : List Int} {k : Nat} {src : Tv} (hs : src = tsI ns ∨ src = .lst (ns.map Tv.int)) (hk : ∀ S, cf d [src] S = .ok (.int (Qr.gcdL ns)) S) (hb : ∀ n ∈ ns, Bd k n) (hk2 : k ≤ 8000) (hn : ns.length ≤ 1000) :
    runD cf (xLowest d) [src] S = .ok (tsI (Qr.low ns)) S := by
  refine run_eq rfl ?_
  show (exs cf Fu (xLowest d).body [some src, none, none] S).wp _
  unfold xLowest
  have sr : srcOf S src = some (ns.map Tv.int, []) := by rcases hs with rfl | rfl <;> rfl
  have tp : primV .tuple S [src] = some (tsI ns) := by rcases hs with rfl | rfl <;> rfl
  (try simp only [exs_nil, q_asg, kA_eq, kR_eq, q_drop, kD_eq, q_ret, q_if, kI_t, kI_f, q_set, kS_eq, q_pass, q_brk, q_cont, q_for, kF_eq, List.cons_append, List.nil_append, w_var, t_var, w_int, w_str, w_bl, w_non, w_gl, w_bin, w_neg, t_cmp, w_cmp, t_chain, w_chain, t_isC, w_isC, w_isi, t_isi, t_bop1, t_bop, w_bop1, w_bop, t_nt, w_nt, w_ite, t_ite, w_nil, w_cons, a_tup, w_fz, w_mu, a_disp, a_comp, w_ofSeq, w_call, w_prim, w_ix, w_sl, w_rev, w_pop, w_popAt, w_app, e_nop, e_int, e_var, e_bin, i_seq, a_rng, rngA_int, a_rng2, rngB_int, a_zip, zipA_some, a_enum, enA_some, src_tsI, src_lsI, t_call, t_prim, tru_bl, opt_some, t_nop, List.getElem?_cons_zero, List.getElem?_cons_succ, setTg, setTgs, List.set_cons_zero, List.set_cons_succ, wp_ok, wipeE, len0, len1, len2, len3, len4, len5, len6, len7, len8, len9, len10, if_true, if_false, Bool.false_eq_true, eq_int, ne_int, gt_int, lt_int', le_int', ge_int', add_int, sub_int, abs_int, int_int, Option.map_some, src_lst, src_tup, ix_t0, ix_t1, ix_t2, ix_t3, ix_l0, ix_l1, ix_l2, is_non, and_true, true_and, hk])
  unfold Qr.low
  by_cases hz : Qr.gcdL ns = 0
  · rw [hz]
    rw [if_neg (by decide), if_pos rfl]
    (try simp only [exs_nil, q_asg, kA_eq, kR_eq, q_drop, kD_eq, q_ret, q_if, kI_t, kI_f, q_set, kS_eq, q_pass, q_brk, q_cont, q_for, kF_eq, List.cons_append, List.nil_append, w_var, t_var, w_int, w_str, w_bl, w_non, w_gl, w_bin, w_neg, t_cmp, w_cmp, t_chain, w_chain, t_isC, w_isC, w_isi, t_isi, t_bop1, t_bop, w_bop1, w_bop, t_nt, w_nt, w_ite, t_ite, w_nil, w_cons, a_tup, w_fz, w_mu, a_disp, a_comp, w_ofSeq, w_call, w_prim, w_ix, w_sl, w_rev, w_pop, w_popAt, w_app, e_nop, e_int, e_var, e_bin, i_seq, a_rng, rngA_int, a_rng2, rngB_int, a_zip, zipA_some, a_enum, enA_some, src_tsI, src_lsI, t_call, t_prim, tru_bl, opt_some, t_nop, List.getElem?_cons_zero, List.getElem?_cons_succ, setTg, setTgs, List.set_cons_zero, List.set_cons_succ, wp_ok, wipeE, len0, len1, len2, len3, len4, len5, len6, len7, len8, len9, len10, if_true, if_false, Bool.false_eq_true, eq_int, ne_int, gt_int, lt_int', le_int', ge_int', add_int, sub_int, abs_int, int_int, Option.map_some, src_lst, src_tup, ix_t0, ix_t1, ix_t2, ix_t3, ix_l0, ix_l1, ix_l2, is_non, and_true, true_and, tp])
  · have hp : (0 : Int) < (Qr.gcdL ns : Int) := by omega
    rw [if_pos (decide_eq_true hp), if_neg hz]
    have hl : (Qr.gcdL ns).log2 < 9000 := by
      have h1 := gcdL_bd hb
      have := (Nat.log2_lt hz).mpr h1
      omega
    (try simp only [exs_nil, q_asg, kA_eq, kR_eq, q_drop, kD_eq, q_ret, q_if, kI_t, kI_f, q_set, kS_eq, q_pass, q_brk, q_cont, q_for, kF_eq, List.cons_append, List.nil_append, w_var, t_var, w_int, w_str, w_bl, w_non, w_gl, w_bin, w_neg, t_cmp, w_cmp, t_chain, w_chain, t_isC, w_isC, w_isi, t_isi, t_bop1, t_bop, w_bop1, w_bop, t_nt, w_nt, w_ite, t_ite, w_nil, w_cons, a_tup, w_fz, w_mu, a_disp, a_comp, w_ofSeq, w_call, w_prim, w_ix, w_sl, w_rev, w_pop, w_popAt, w_app, e_nop, e_int, e_var, e_bin, i_seq, a_rng, rngA_int, a_rng2, rngB_int, a_zip, zipA_some, a_enum, enA_some, src_tsI, src_lsI, t_call, t_prim, tru_bl, opt_some, t_nop, List.getElem?_cons_zero, List.getElem?_cons_succ, setTg, setTgs, List.set_cons_zero, List.set_cons_succ, wp_ok, wipeE, len0, len1, len2, len3, len4, len5, len6, len7, len8, len9, len10, if_true, if_false, Bool.false_eq_true, eq_int, ne_int, gt_int, lt_int', le_int', ge_int', add_int, sub_int, abs_int, int_int, Option.map_some, src_lst, src_tup, ix_t0, ix_t1, ix_t2, ix_t3, ix_l0, ix_l1, ix_l2, is_non, and_true, true_and, sr, len_map (f := Tv.int) (xs := ns) (by omega)])
    rw [comp_all (fun n => Tv.int (n / (Qr.gcdL ns : Int))) rfl (fun n hn => by (try simp only [exs_nil, q_asg, kA_eq, kR_eq, q_drop, kD_eq, q_ret, q_if, kI_t, kI_f, q_set, kS_eq, q_pass, q_brk, q_cont, q_for, kF_eq, List.cons_append, List.nil_append, w_var, t_var, w_int, w_str, w_bl, w_non, w_gl, w_bin, w_neg, t_cmp, w_cmp, t_chain, w_chain, t_isC, w_isC, w_isi, t_isi, t_bop1, t_bop, w_bop1, w_bop, t_nt, w_nt, w_ite, t_ite, w_nil, w_cons, a_tup, w_fz, w_mu, a_disp, a_comp, w_ofSeq, w_call, w_prim, w_ix, w_sl, w_rev, w_pop, w_popAt, w_app, e_nop, e_int, e_var, e_bin, i_seq, a_rng, rngA_int, a_rng2, rngB_int, a_zip, zipA_some, a_enum, enA_some, src_tsI, src_lsI, t_call, t_prim, tru_bl, opt_some, t_nop, List.getElem?_cons_zero, List.getElem?_cons_succ, setTg, setTgs, List.set_cons_zero, List.set_cons_succ, wp_ok, wipeE, len0, len1, len2, len3, len4, len5, len6, len7, len8, len9, len10, if_true, if_false, Bool.false_eq_true, eq_int, ne_int, gt_int, lt_int', le_int', ge_int', add_int, sub_int, abs_int, int_int, Option.map_some, src_lst, src_tup, ix_t0, ix_t1, ix_t2, ix_t3, ix_l0, ix_l1, ix_l2, is_non, and_true, true_and, fdiv_int (S := S) (i := n) hp hl]))]
    (try simp only [exs_nil, q_asg, kA_eq, kR_eq, q_drop, kD_eq, q_ret, q_if, kI_t, kI_f, q_set, kS_eq, q_pass, q_brk, q_cont, q_for, kF_eq, List.cons_append, List.nil_append, w_var, t_var, w_int, w_str, w_bl, w_non, w_gl, w_bin, w_neg, t_cmp, w_cmp, t_chain, w_chain, t_isC, w_isC, w_isi, t_isi, t_bop1, t_bop, w_bop1, w_bop, t_nt, w_nt, w_ite, t_ite, w_nil, w_cons, a_tup, w_fz, w_mu, a_disp, a_comp, w_ofSeq, w_call, w_prim, w_ix, w_sl, w_rev, w_pop, w_popAt, w_app, e_nop, e_int, e_var, e_bin, i_seq, a_rng, rngA_int, a_rng2, rngB_int, a_zip, zipA_some, a_enum, enA_some, src_tsI, src_lsI, t_call, t_prim, tru_bl, opt_some, t_nop, List.getElem?_cons_zero, List.getElem?_cons_succ, setTg, setTgs, List.set_cons_zero, List.set_cons_succ, wp_ok, wipeE, len0, len1, len2, len3, len4, len5, len6, len7, len8, len9, len10, if_true, if_false, Bool.false_eq_true, eq_int, ne_int, gt_int, lt_int', le_int', ge_int', add_int, sub_int, abs_int, int_int, Option.map_some, src_lst, src_tup, ix_t0, ix_t1, ix_t2, ix_t3, ix_l0, ix_l1, ix_l2, is_non, and_true, true_and, tup_lst])
    show Tv.tup _ = Tv.tup _
    rw [List.map_map]
    rfl
theorem low_bd {ns : List Int} {k : Nat} (hb : ∀ n ∈ ns, Bd k n) : ∀ n ∈ Qr.low ns, Bd k n := by
  unfold Qr.low
  split
  · exact hb
  · intro n hn
    obtain ⟨m, hm, rfl⟩ := List.mem_map.mp hn
    refine Nat.lt_of_le_of_lt ?_ (hb m hm)
    have := Int.natAbs_ediv_of_dvd (Qr.gcdL_dvd hm)
    rw [this]
    exact Nat.div_le_self _ _
/-! ### the rows' defs -/
def zipI (a b : List Int) : List Tv := (a.zip b).map pr
def xPlus : Df := ⟨5, 3,
  [
    .ret (.prim .tuple [(.fz (.comp [3, 4] (.bin .add (.var 3) (.bin .mul (.var 2) (.var 4))) (.tup [(.v 3), (.v 4)]) (.zip (.var 0) (.var 1)) .nop))])]⟩
def xFirstPlace : Df := ⟨3, 1,
  [
    .ret (.ix (.fz (.comp [1, 2] (.var 1) (.tup [(.v 1), (.v 2)]) (.enum (.var 0)) (.cmp .ne (.var 2) (.int 0)))) (.int 0))]⟩
def xCleared : Df := ⟨8, 2,
  [
    .forS (.v 2) (.seq (.var 1))
      [
        .asg (.v 3) (.call 16 [(.var 2)]),
        .asg (.tup [(.v 5), (.v 6)]) (.tup [(.ix (.var 2) (.var 3)), (.ix (.var 0) (.var 3))]),
        .asg (.v 4) (.ite (.cmp .gt (.var 5) (.int 0)) (.int 1) (.neg (.int 1))),
        .asg (.v 0) (.call 14 [(.prim .tuple [(.fz (.comp [7] (.bin .mul (.bin .mul (.var 4) (.var 5)) (.var 7)) (.v 7) (.seq (.var 0)) .nop))]), (.var 2), (.bin .sub (.int 0) (.bin .mul (.var 4) (.var 6)))])],
    .ret (.var 0)]⟩
def xReduced : Df := ⟨3, 1,
  [
    .asg (.v 1) (.mu (.disp [])),
    .forS (.v 2) (.seq (.var 0))
      [
        .asg (.v 2) (.call 15 [(.call 17 [(.var 2), (.var 1)])]),
        .ifS (.nt (.call 4 [(.var 2)]))
          [
            .drop (.app (.var 1) (.var 2))]
          []],
    .ret (.prim .tuple [(.var 1)])]⟩
theorem plus_bd {cf : Nat → List Tv → M Tv} {S : Sto} {a b : List Int} {t : Int} {k l : Nat} (hk : Bd k t) (hb : ∀ y ∈ b, Bd l y) (hs : k + l ≤ 900000) (hl : a.length ≤ 1000) :
    runD cf xPlus [tsI a, tsI b, .int t] S = .ok (tsI (List.zipWith (fun x y => x + t * y) a b)) S := by
  refine run_eq rfl ?_
  show (exs cf Fu xPlus.body [some (tsI a), some (tsI b), some (.int t), none, none] S).wp _
  unfold xPlus
  have l1 : (((a.zip b).map pr).length ≤ lim) = True := len_map (by rw [List.length_zip]; omega)
  (try simp only [exs_nil, q_asg, kA_eq, kR_eq, q_drop, kD_eq, q_ret, q_if, kI_t, kI_f, q_set, kS_eq, q_pass, q_brk, q_cont, q_for, kF_eq, List.cons_append, List.nil_append, w_var, t_var, w_int, w_str, w_bl, w_non, w_gl, w_bin, w_neg, t_cmp, w_cmp, t_chain, w_chain, t_isC, w_isC, w_isi, t_isi, t_bop1, t_bop, w_bop1, w_bop, t_nt, w_nt, w_ite, t_ite, w_nil, w_cons, a_tup, w_fz, w_mu, a_disp, a_comp, w_ofSeq, w_call, w_prim, w_ix, w_sl, w_rev, w_pop, w_popAt, w_app, e_nop, e_int, e_var, e_bin, i_seq, a_rng, rngA_int, a_rng2, rngB_int, a_zip, zipA_some, a_enum, enA_some, src_tsI, src_lsI, t_call, t_prim, tru_bl, opt_some, t_nop, List.getElem?_cons_zero, List.getElem?_cons_succ, setTg, setTgs, List.set_cons_zero, List.set_cons_succ, wp_ok, wipeE, len0, len1, len2, len3, len4, len5, len6, len7, len8, len9, len10, if_true, if_false, Bool.false_eq_true, eq_int, ne_int, gt_int, lt_int', le_int', ge_int', add_int, sub_int, abs_int, int_int, Option.map_some, src_lst, src_tup, ix_t0, ix_t1, ix_t2, ix_t3, ix_l0, ix_l1, ix_l2, is_non, and_true, true_and, tsI, zipT_pr, l1])
  rw [comp_all (fun p : Int × Int => Tv.int (p.1 + t * p.2)) rfl (fun p hp => by
    have m1 : ∀ S, binV .mul S (.int t) (.int p.2) = some (.int (t * p.2)) := fun S => mul_bd hk (hb _ (List.of_mem_zip hp).2) hs
    (try simp only [exs_nil, q_asg, kA_eq, kR_eq, q_drop, kD_eq, q_ret, q_if, kI_t, kI_f, q_set, kS_eq, q_pass, q_brk, q_cont, q_for, kF_eq, List.cons_append, List.nil_append, w_var, t_var, w_int, w_str, w_bl, w_non, w_gl, w_bin, w_neg, t_cmp, w_cmp, t_chain, w_chain, t_isC, w_isC, w_isi, t_isi, t_bop1, t_bop, w_bop1, w_bop, t_nt, w_nt, w_ite, t_ite, w_nil, w_cons, a_tup, w_fz, w_mu, a_disp, a_comp, w_ofSeq, w_call, w_prim, w_ix, w_sl, w_rev, w_pop, w_popAt, w_app, e_nop, e_int, e_var, e_bin, i_seq, a_rng, rngA_int, a_rng2, rngB_int, a_zip, zipA_some, a_enum, enA_some, src_tsI, src_lsI, t_call, t_prim, tru_bl, opt_some, t_nop, List.getElem?_cons_zero, List.getElem?_cons_succ, setTg, setTgs, List.set_cons_zero, List.set_cons_succ, wp_ok, wipeE, len0, len1, len2, len3, len4, len5, len6, len7, len8, len9, len10, if_true, if_false, Bool.false_eq_true, eq_int, ne_int, gt_int, lt_int', le_int', ge_int', add_int, sub_int, abs_int, int_int, Option.map_some, src_lst, src_tup, ix_t0, ix_t1, ix_t2, ix_t3, ix_l0, ix_l1, ix_l2, is_non, and_true, true_and, pr, m1]))]
  (try simp only [exs_nil, q_asg, kA_eq, kR_eq, q_drop, kD_eq, q_ret, q_if, kI_t, kI_f, q_set, kS_eq, q_pass, q_brk, q_cont, q_for, kF_eq, List.cons_append, List.nil_append, w_var, t_var, w_int, w_str, w_bl, w_non, w_gl, w_bin, w_neg, t_cmp, w_cmp, t_chain, w_chain, t_isC, w_isC, w_isi, t_isi, t_bop1, t_bop, w_bop1, w_bop, t_nt, w_nt, w_ite, t_ite, w_nil, w_cons, a_tup, w_fz, w_mu, a_disp, a_comp, w_ofSeq, w_call, w_prim, w_ix, w_sl, w_rev, w_pop, w_popAt, w_app, e_nop, e_int, e_var, e_bin, i_seq, a_rng, rngA_int, a_rng2, rngB_int, a_zip, zipA_some, a_enum, enA_some, src_tsI, src_lsI, t_call, t_prim, tru_bl, opt_some, t_nop, List.getElem?_cons_zero, List.getElem?_cons_succ, setTg, setTgs, List.set_cons_zero, List.set_cons_succ, wp_ok, wipeE, len0, len1, len2, len3, len4, len5, len6, len7, len8, len9, len10, if_true, if_false, Bool.false_eq_true, eq_int, ne_int, gt_int, lt_int', le_int', ge_int', add_int, sub_int, abs_int, int_int, Option.map_some, src_lst, src_tup, ix_t0, ix_t1, ix_t2, ix_t3, ix_l0, ix_l1, ix_l2, is_non, and_true, true_and, tup_lst])
  show Tv.tup _ = Tv.tup _
  congr 1
  rw [← List.map_uncurry_zip_eq_zipWith, List.map_map]
  rfl
theorem enumT_map : ∀ (ns : List Int) (i : Nat), enumT i (ns.map Tv.int) = (ns.zipIdx i).map fun p => Tv.tup [.int (p.2 : Int), .int p.1]
  | [], _ => rfl
  | n :: r, i => by
    rw [List.map_cons, enumT, List.zipIdx_cons, List.map_cons]
    have e : (i : Int) + 1 = ((i + 1 : Nat) : Int) := by omega
    rw [e, enumT_map r (i + 1)]
theorem fp_filter : ∀ {r : List Int} (i : Nat), Qr.isZ r = false → ∃ rest, (r.zipIdx i).filter (fun p => !(p.1 == 0)) = (Qr.at' r (Qr.fp r), i + Qr.fp r) :: rest
  | [], i, h => by simp [Qr.isZ] at h
  | x :: r, i, h => by
    rw [List.zipIdx_cons, List.filter_cons]
    by_cases hx : x = 0
    · subst hx
      have h' : Qr.isZ r = false := by simpa [Qr.isZ] using h
      obtain ⟨rest, e⟩ := fp_filter (i + 1) h'
      refine ⟨rest, ?_⟩
      simp only [BEq.rfl, Bool.not_true, Bool.false_eq_true, if_false]
      rw [e]
      simp [Qr.fp, Qr.at']
      omega
    · refine ⟨(r.zipIdx (i + 1)).filter (fun p => !(p.1 == 0)), ?_⟩
      rw [if_pos (by simpa using hx)]
      simp [Qr.fp, Qr.at', hx]
theorem firstPlace_ok {cf : Nat → List Tv → M Tv} {S : Sto} {r : List Int} (hz : Qr.isZ r = false) (hl : r.length ≤ 1000) : runD cf xFirstPlace [tsI r] S = .ok (.int (Qr.fp r)) S := by
  refine run_eq rfl ?_
  show (exs cf Fu xFirstPlace.body [some (tsI r), none, none] S).wp _
  unfold xFirstPlace
  have l1 : (((r.zipIdx 0).map fun p => Tv.tup [.int (p.2 : Int), .int p.1]).length ≤ lim) = True := len_map (by rw [List.length_zipIdx]; omega)
  have en : enumT 0 (r.map Tv.int) = (r.zipIdx 0).map fun p => Tv.tup [.int (p.2 : Int), .int p.1] := enumT_map r 0
  (try simp only [exs_nil, q_asg, kA_eq, kR_eq, q_drop, kD_eq, q_ret, q_if, kI_t, kI_f, q_set, kS_eq, q_pass, q_brk, q_cont, q_for, kF_eq, List.cons_append, List.nil_append, w_var, t_var, w_int, w_str, w_bl, w_non, w_gl, w_bin, w_neg, t_cmp, w_cmp, t_chain, w_chain, t_isC, w_isC, w_isi, t_isi, t_bop1, t_bop, w_bop1, w_bop, t_nt, w_nt, w_ite, t_ite, w_nil, w_cons, a_tup, w_fz, w_mu, a_disp, a_comp, w_ofSeq, w_call, w_prim, w_ix, w_sl, w_rev, w_pop, w_popAt, w_app, e_nop, e_int, e_var, e_bin, i_seq, a_rng, rngA_int, a_rng2, rngB_int, a_zip, zipA_some, a_enum, enA_some, src_tsI, src_lsI, t_call, t_prim, tru_bl, opt_some, t_nop, List.getElem?_cons_zero, List.getElem?_cons_succ, setTg, setTgs, List.set_cons_zero, List.set_cons_succ, wp_ok, wipeE, len0, len1, len2, len3, len4, len5, len6, len7, len8, len9, len10, if_true, if_false, Bool.false_eq_true, eq_int, ne_int, gt_int, lt_int', le_int', ge_int', add_int, sub_int, abs_int, int_int, Option.map_some, src_lst, src_tup, ix_t0, ix_t1, ix_t2, ix_t3, ix_l0, ix_l1, ix_l2, is_non, and_true, true_and, tsI, en, l1])
  rw [comp_on (fun p : Int × Nat => !(p.1 == 0)) (fun p : Int × Nat => Tv.int p.2) rfl (fun p hp => by
    (try simp only [exs_nil, q_asg, kA_eq, kR_eq, q_drop, kD_eq, q_ret, q_if, kI_t, kI_f, q_set, kS_eq, q_pass, q_brk, q_cont, q_for, kF_eq, List.cons_append, List.nil_append, w_var, t_var, w_int, w_str, w_bl, w_non, w_gl, w_bin, w_neg, t_cmp, w_cmp, t_chain, w_chain, t_isC, w_isC, w_isi, t_isi, t_bop1, t_bop, w_bop1, w_bop, t_nt, w_nt, w_ite, t_ite, w_nil, w_cons, a_tup, w_fz, w_mu, a_disp, a_comp, w_ofSeq, w_call, w_prim, w_ix, w_sl, w_rev, w_pop, w_popAt, w_app, e_nop, e_int, e_var, e_bin, i_seq, a_rng, rngA_int, a_rng2, rngB_int, a_zip, zipA_some, a_enum, enA_some, src_tsI, src_lsI, t_call, t_prim, tru_bl, opt_some, t_nop, List.getElem?_cons_zero, List.getElem?_cons_succ, setTg, setTgs, List.set_cons_zero, List.set_cons_succ, wp_ok, wipeE, len0, len1, len2, len3, len4, len5, len6, len7, len8, len9, len10, if_true, if_false, Bool.false_eq_true, eq_int, ne_int, gt_int, lt_int', le_int', ge_int', add_int, sub_int, abs_int, int_int, Option.map_some, src_lst, src_tup, ix_t0, ix_t1, ix_t2, ix_t3, ix_l0, ix_l1, ix_l2, is_non, and_true, true_and])
    split <;> trivial)]
  obtain ⟨rest, e⟩ := fp_filter 0 hz
  rw [e]
  (try simp only [exs_nil, q_asg, kA_eq, kR_eq, q_drop, kD_eq, q_ret, q_if, kI_t, kI_f, q_set, kS_eq, q_pass, q_brk, q_cont, q_for, kF_eq, List.cons_append, List.nil_append, w_var, t_var, w_int, w_str, w_bl, w_non, w_gl, w_bin, w_neg, t_cmp, w_cmp, t_chain, w_chain, t_isC, w_isC, w_isi, t_isi, t_bop1, t_bop, w_bop1, w_bop, t_nt, w_nt, w_ite, t_ite, w_nil, w_cons, a_tup, w_fz, w_mu, a_disp, a_comp, w_ofSeq, w_call, w_prim, w_ix, w_sl, w_rev, w_pop, w_popAt, w_app, e_nop, e_int, e_var, e_bin, i_seq, a_rng, rngA_int, a_rng2, rngB_int, a_zip, zipA_some, a_enum, enA_some, src_tsI, src_lsI, t_call, t_prim, tru_bl, opt_some, t_nop, List.getElem?_cons_zero, List.getElem?_cons_succ, setTg, setTgs, List.set_cons_zero, List.set_cons_succ, wp_ok, wipeE, len0, len1, len2, len3, len4, len5, len6, len7, len8, len9, len10, if_true, if_false, Bool.false_eq_true, eq_int, ne_int, gt_int, lt_int', le_int', ge_int', add_int, sub_int, abs_int, int_int, Option.map_some, src_lst, src_tup, ix_t0, ix_t1, ix_t2, ix_t3, ix_l0, ix_l1, ix_l2, is_non, and_true, true_and, List.map_cons, Nat.zero_add])
theorem kA_ite {cf : Nat → List Tv → M Tv} {m : Nat} {r : List Sx} {env : Env} {S : Sto} {D : Po} {tg : Tg} {c : Bool} {t u : Tv} : (if c = true then kA cf m tg r env D t S else kA cf m tg r env D u S) = kA cf m tg r env D (if c = true then t else u) S := by
  cases c <;> rfl
theorem ite_tint {c : Bool} {i j : Int} : (if c = true then Tv.int i else Tv.int j) = .int (if c = true then i else j) := by cases c <;> rfl
theorem ix_at {S : Sto} {r : List Int} {p : Nat} (h : p < r.length) : ixV S (tsI r) (.int p) = some (.int (Qr.at' r p)) := by
  show L2.atI (r.map Tv.int) (p : Int) = _
  refine L2.atI_nat ?_
  unfold Qr.at'
  rw [List.getElem?_map, List.getD_eq_getElem?_getD, List.getElem?_eq_getElem h]
  rfl
theorem step_bd {r o : List Int} {b c : Nat} (hr : ∀ x ∈ r, Bd b x) (ho : ∀ x ∈ o, Bd c x) (h1 : Bd c (Qr.at' o (Qr.fp o))) (h2 : Bd b (Qr.at' r (Qr.fp o))) : ∀ x ∈ Qr.step r o, Bd (b + c + 1) x := by
  intro x hx
  unfold Qr.step Qr.comb at hx
  rw [← List.map_uncurry_zip_eq_zipWith] at hx
  obtain ⟨p, hp, rfl⟩ := List.mem_map.mp hx
  have a1 := hr _ (List.of_mem_zip hp).1
  have a2 := ho _ (List.of_mem_zip hp).2
  have e : (Qr.sg (Qr.at' o (Qr.fp o)) * Qr.at' o (Qr.fp o)) = ((Qr.at' o (Qr.fp o)).natAbs : Int) := Qr.sg_mul
  have q1 : Bd (b + c) (Qr.sg (Qr.at' o (Qr.fp o)) * Qr.at' o (Qr.fp o) * p.1) := by
    rw [e, Nat.add_comm]
    refine Bd.mul ?_ a1
    unfold Bd
    rw [Int.natAbs_natCast]
    exact h1
  have q2 : Bd (b + c) ((0 - Qr.sg (Qr.at' o (Qr.fp o)) * Qr.at' r (Qr.fp o)) * p.2) := by
    refine Bd.mul ?_ a2
    rw [Int.zero_sub]
    refine Bd.neg ?_
    unfold Qr.sg
    split
    · rw [Int.one_mul]; exact h2
    · rw [Int.neg_mul, Int.one_mul]; exact h2.neg
  exact q1.add q2
theorem bd_at {r : List Int} {b p : Nat} (hr : ∀ x ∈ r, Bd b x) : Bd b (Qr.at' r p) := by
  unfold Qr.at'
  rw [List.getD_eq_getElem?_getD]
  cases e : r[p]? with
  | none =>
    show Bd b 0
    unfold Bd
    exact Nat.two_pow_pos b
  | some x => exact hr x (List.mem_of_getElem? e)
theorem clear_bds {c : Nat} (T : List (List Int)) (r : List Int) (b : Nat) (hT : ∀ o ∈ T, (∀ x ∈ o, Bd c x)) (h : ∀ x ∈ r, Bd b x) : ∀ x ∈ Qr.clear r T, Bd (b + T.length * (c + 1)) x := by
  induction T generalizing r b with
  | nil => simpa [Qr.clear] using h
  | cons o T ih =>
    have := ih (Qr.step r o) (b + c + 1) (fun u hu => hT u (List.mem_cons_of_mem _ hu)) (step_bd h (hT o List.mem_cons_self) (bd_at (hT o List.mem_cons_self)) (bd_at h))
    intro x hx
    refine (this x hx).mono ?_
    rw [List.length_cons, Nat.add_mul]
    omega
theorem cleared_bd {cf : Nat → List Tv → M Tv} {S : Sto} (h16 : ∀ (S : Sto) (r : List Int), Qr.isZ r = false → r.length ≤ 1000 → cf 16 [tsI r] S = .ok (.int (Qr.fp r)) S)
    (h14 : ∀ (S : Sto) (a b : List Int) (t : Int) (k l : Nat), Bd k t → (∀ y ∈ b, Bd l y) → k + l ≤ 900000 → a.length ≤ 1000 → cf 14 [tsI a, tsI b, .int t] S = .ok (tsI (List.zipWith (fun x y => x + t * y) a b)) S)
    {rows : Tv} {R : List (List Int)} {w : List (Nat × List Tv)} (hs : srcOf S rows = some (R.map tsI, w)) (hw : stays w S = true) {r0 : List Int} {b c n : Nat} (hr : ∀ x ∈ r0, Bd b x) (hR : ∀ o ∈ R, ∀ x ∈ o, Bd c x)
    (hl : ∀ o ∈ R, o.length = n ∧ Qr.isZ o = false) (hl0 : r0.length = n) (hn : n ≤ 1000) (hb : b + R.length * (c + 1) + c ≤ 400000) :
    runD cf xCleared [tsI r0, rows] S = .ok (tsI (Qr.clear r0 R)) S ∧ ∀ x ∈ Qr.clear r0 R, Bd (b + R.length * (c + 1)) x := by
  refine ⟨?_, clear_bds R r0 b hR hr⟩
  refine run_eq rfl ?_
  show (exs cf Fu xCleared.body [some (tsI r0), some rows, none, none, none, none, none, none] S).wp _
  unfold xCleared
  (try simp only [exs_nil, q_asg, kA_eq, kR_eq, q_drop, kD_eq, q_ret, q_if, kI_t, kI_f, q_set, kS_eq, q_pass, q_brk, q_cont, q_for, kF_eq, List.cons_append, List.nil_append, w_var, t_var, w_int, w_str, w_bl, w_non, w_gl, w_bin, w_neg, t_cmp, w_cmp, t_chain, w_chain, t_isC, w_isC, w_isi, t_isi, t_bop1, t_bop, w_bop1, w_bop, t_nt, w_nt, w_ite, t_ite, w_nil, w_cons, a_tup, w_fz, w_mu, a_disp, a_comp, w_ofSeq, w_call, w_prim, w_ix, w_sl, w_rev, w_pop, w_popAt, w_app, e_nop, e_int, e_var, e_bin, i_seq, a_rng, rngA_int, a_rng2, rngB_int, a_zip, zipA_some, a_enum, enA_some, src_tsI, src_lsI, t_call, t_prim, tru_bl, opt_some, t_nop, List.getElem?_cons_zero, List.getElem?_cons_succ, setTg, setTgs, List.set_cons_zero, List.set_cons_succ, wp_ok, wipeE, len0, len1, len2, len3, len4, len5, len6, len7, len8, len9, len10, if_true, if_false, Bool.false_eq_true, eq_int, ne_int, gt_int, lt_int', le_int', ge_int', add_int, sub_int, abs_int, int_int, Option.map_some, src_lst, src_tup, ix_t0, ix_t1, ix_t2, ix_t3, ix_l0, ix_l1, ix_l2, is_non, and_true, true_and, hs])
  refine for_on (fun dn r env S' => S' = S ∧ ∃ j2 j3 j4 j5 j6 j7 : Option Tv, ∃ cur : List Int, env = [some (tsI cur), some rows, j2, j3, j4, j5, j6, j7] ∧ Qr.clear cur r = Qr.clear r0 R ∧ cur.length = n ∧ ∀ x ∈ cur, Bd (b + dn.length * (c + 1)) x) (fun _ _ _ _ h => by rw [h.1]; exact hw) ?_ ?_ ⟨rfl, _, _, _, _, _, _, r0, rfl, rfl, hl0, by simpa using hr⟩
  · rintro dn o r env S' hx ⟨rfl, j2, j3, j4, j5, j6, j7, cur, rfl, hc, hcl, hcb⟩
    have ho : o ∈ R := by rw [hx]; simp
    obtain ⟨lo, zo⟩ := hl o ho
    have hlen : dn.length + 1 ≤ R.length := by rw [hx, List.length_append, List.length_cons]; omega
    have hmul : (dn.length + 1) * (c + 1) ≤ R.length * (c + 1) := Nat.mul_le_mul_right _ hlen
    rw [Nat.add_mul, Nat.one_mul] at hmul
    have fl := Qr.fp_lt zo
    (try simp only [exs_nil, q_asg, kR_eq, q_drop, kD_eq, q_ret, q_if, kI_t, kI_f, q_set, kS_eq, q_pass, q_brk, q_cont, q_for, kF_eq, List.cons_append, List.nil_append, w_var, t_var, w_int, w_str, w_bl, w_non, w_gl, w_bin, w_neg, t_cmp, w_cmp, t_chain, w_chain, t_isC, w_isC, w_isi, t_isi, t_bop1, t_bop, w_bop1, w_bop, t_nt, w_nt, w_ite, t_ite, w_nil, w_cons, a_tup, w_fz, w_mu, a_disp, a_comp, w_ofSeq, w_call, w_prim, w_ix, w_sl, w_rev, w_pop, w_popAt, w_app, e_nop, e_int, e_var, e_bin, i_seq, a_rng, rngA_int, a_rng2, rngB_int, a_zip, zipA_some, a_enum, enA_some, src_tsI, src_lsI, t_call, t_prim, tru_bl, opt_some, t_nop, List.getElem?_cons_zero, List.getElem?_cons_succ, setTg, setTgs, List.set_cons_zero, List.set_cons_succ, wp_ok, wipeE, len0, len1, len2, len3, len4, len5, len6, len7, len8, len9, len10, if_true, if_false, Bool.false_eq_true, eq_int, ne_int, gt_int, lt_int', le_int', ge_int', add_int, sub_int, abs_int, int_int, Option.map_some, src_lst, src_tup, ix_t0, ix_t1, ix_t2, ix_t3, ix_l0, ix_l1, ix_l2, is_non, and_true, true_and, h16 _ o zo (by omega)])
    rw [kA_eq]
    have i1 : ∀ S, ixV S (tsI o) (.int (Qr.fp o)) = some (.int (Qr.at' o (Qr.fp o))) := fun S => ix_at fl
    have i2 : ∀ S, ixV S (tsI cur) (.int (Qr.fp o)) = some (.int (Qr.at' cur (Qr.fp o))) := fun S => ix_at (by omega)
    (try simp only [exs_nil, q_asg, kR_eq, q_drop, kD_eq, q_ret, q_if, kI_t, kI_f, q_set, kS_eq, q_pass, q_brk, q_cont, q_for, kF_eq, List.cons_append, List.nil_append, w_var, t_var, w_int, w_str, w_bl, w_non, w_gl, w_bin, w_neg, t_cmp, w_cmp, t_chain, w_chain, t_isC, w_isC, w_isi, t_isi, t_bop1, t_bop, w_bop1, w_bop, t_nt, w_nt, w_ite, t_ite, w_nil, w_cons, a_tup, w_fz, w_mu, a_disp, a_comp, w_ofSeq, w_call, w_prim, w_ix, w_sl, w_rev, w_pop, w_popAt, w_app, e_nop, e_int, e_var, e_bin, i_seq, a_rng, rngA_int, a_rng2, rngB_int, a_zip, zipA_some, a_enum, enA_some, src_tsI, src_lsI, t_call, t_prim, tru_bl, opt_some, t_nop, List.getElem?_cons_zero, List.getElem?_cons_succ, setTg, setTgs, List.set_cons_zero, List.set_cons_succ, wp_ok, wipeE, len0, len1, len2, len3, len4, len5, len6, len7, len8, len9, len10, if_true, if_false, Bool.false_eq_true, eq_int, ne_int, gt_int, lt_int', le_int', ge_int', add_int, sub_int, abs_int, int_int, Option.map_some, src_lst, src_tup, ix_t0, ix_t1, ix_t2, ix_t3, ix_l0, ix_l1, ix_l2, is_non, and_true, true_and, i1, i2])
    rw [kA_eq]
    (try simp only [exs_nil, q_asg, kR_eq, q_drop, kD_eq, q_ret, q_if, kI_t, kI_f, q_set, kS_eq, q_pass, q_brk, q_cont, q_for, kF_eq, List.cons_append, List.nil_append, w_var, t_var, w_int, w_str, w_bl, w_non, w_gl, w_bin, w_neg, t_cmp, w_cmp, t_chain, w_chain, t_isC, w_isC, w_isi, t_isi, t_bop1, t_bop, w_bop1, w_bop, t_nt, w_nt, w_ite, t_ite, w_nil, w_cons, a_tup, w_fz, w_mu, a_disp, a_comp, w_ofSeq, w_call, w_prim, w_ix, w_sl, w_rev, w_pop, w_popAt, w_app, e_nop, e_int, e_var, e_bin, i_seq, a_rng, rngA_int, a_rng2, rngB_int, a_zip, zipA_some, a_enum, enA_some, src_tsI, src_lsI, t_call, t_prim, tru_bl, opt_some, t_nop, List.getElem?_cons_zero, List.getElem?_cons_succ, setTg, setTgs, List.set_cons_zero, List.set_cons_succ, wp_ok, wipeE, len0, len1, len2, len3, len4, len5, len6, len7, len8, len9, len10, if_true, if_false, Bool.false_eq_true, eq_int, ne_int, gt_int, lt_int', le_int', ge_int', add_int, sub_int, abs_int, int_int, Option.map_some, src_lst, src_tup, ix_t0, ix_t1, ix_t2, ix_t3, ix_l0, ix_l1, ix_l2, is_non, and_true, true_and])
    rw [kA_ite, ite_tint, kA_eq]
    have e1 : (if decide (0 < Qr.at' o (Qr.fp o)) = true then (1 : Int) else -1) = Qr.sg (Qr.at' o (Qr.fp o)) := by
      unfold Qr.sg
      by_cases h : 0 < Qr.at' o (Qr.fp o) <;> simp [h]
    rw [e1]
    have b1 : Bd c (Qr.at' o (Qr.fp o)) := bd_at (hR o ho)
    have b2 : Bd (b + dn.length * (c + 1)) (Qr.at' cur (Qr.fp o)) := bd_at hcb
    have e2 : Qr.sg (Qr.at' o (Qr.fp o)) * Qr.at' o (Qr.fp o) = ((Qr.at' o (Qr.fp o)).natAbs : Int) := Qr.sg_mul
    have b3 : Bd c (Qr.sg (Qr.at' o (Qr.fp o)) * Qr.at' o (Qr.fp o)) := by rw [e2]; unfold Bd; rw [Int.natAbs_natCast]; exact b1
    have m1 : ∀ S, binV .mul S (.int (Qr.sg (Qr.at' o (Qr.fp o)))) (.int (Qr.at' o (Qr.fp o))) = some (.int (Qr.sg (Qr.at' o (Qr.fp o)) * Qr.at' o (Qr.fp o))) := fun S => mul_bd Bd.sg b1 (by omega)
    have m2 : ∀ S, binV .mul S (.int (Qr.sg (Qr.at' o (Qr.fp o)))) (.int (Qr.at' cur (Qr.fp o))) = some (.int (Qr.sg (Qr.at' o (Qr.fp o)) * Qr.at' cur (Qr.fp o))) := fun S => mul_bd Bd.sg b2 (by omega)
    have l1 : ((cur.map Tv.int).length ≤ lim) = True := len_map (by omega)
    have st : srcOf S' (tsI cur) = some (cur.map Tv.int, []) := rfl
    (try simp only [exs_nil, q_asg, kR_eq, q_drop, kD_eq, q_ret, q_if, kI_t, kI_f, q_set, kS_eq, q_pass, q_brk, q_cont, q_for, kF_eq, List.cons_append, List.nil_append, w_var, t_var, w_int, w_str, w_bl, w_non, w_gl, w_bin, w_neg, t_cmp, w_cmp, t_chain, w_chain, t_isC, w_isC, w_isi, t_isi, t_bop1, t_bop, w_bop1, w_bop, t_nt, w_nt, w_ite, t_ite, w_nil, w_cons, a_tup, w_fz, w_mu, a_disp, a_comp, w_ofSeq, w_call, w_prim, w_ix, w_sl, w_rev, w_pop, w_popAt, w_app, e_nop, e_int, e_var, e_bin, i_seq, a_rng, rngA_int, a_rng2, rngB_int, a_zip, zipA_some, a_enum, enA_some, src_tsI, src_lsI, t_call, t_prim, tru_bl, opt_some, t_nop, List.getElem?_cons_zero, List.getElem?_cons_succ, setTg, setTgs, List.set_cons_zero, List.set_cons_succ, wp_ok, wipeE, len0, len1, len2, len3, len4, len5, len6, len7, len8, len9, len10, if_true, if_false, Bool.false_eq_true, eq_int, ne_int, gt_int, lt_int', le_int', ge_int', add_int, sub_int, abs_int, int_int, Option.map_some, src_lst, src_tup, ix_t0, ix_t1, ix_t2, ix_t3, ix_l0, ix_l1, ix_l2, is_non, and_true, true_and, st, l1])
    rw [comp_all (fun x => Tv.int (Qr.sg (Qr.at' o (Qr.fp o)) * Qr.at' o (Qr.fp o) * x)) rfl (fun x hx => by
      have m3 : ∀ S, binV .mul S (.int (Qr.sg (Qr.at' o (Qr.fp o)) * Qr.at' o (Qr.fp o))) (.int x) = some (.int (Qr.sg (Qr.at' o (Qr.fp o)) * Qr.at' o (Qr.fp o) * x)) := fun S => mul_bd b3 (hcb x hx) (by omega)
      (try simp only [exs_nil, q_asg, kA_eq, kR_eq, q_drop, kD_eq, q_ret, q_if, kI_t, kI_f, q_set, kS_eq, q_pass, q_brk, q_cont, q_for, kF_eq, List.cons_append, List.nil_append, w_var, t_var, w_int, w_str, w_bl, w_non, w_gl, w_bin, w_neg, t_cmp, w_cmp, t_chain, w_chain, t_isC, w_isC, w_isi, t_isi, t_bop1, t_bop, w_bop1, w_bop, t_nt, w_nt, w_ite, t_ite, w_nil, w_cons, a_tup, w_fz, w_mu, a_disp, a_comp, w_ofSeq, w_call, w_prim, w_ix, w_sl, w_rev, w_pop, w_popAt, w_app, e_nop, e_int, e_var, e_bin, i_seq, a_rng, rngA_int, a_rng2, rngB_int, a_zip, zipA_some, a_enum, enA_some, src_tsI, src_lsI, t_call, t_prim, tru_bl, opt_some, t_nop, List.getElem?_cons_zero, List.getElem?_cons_succ, setTg, setTgs, List.set_cons_zero, List.set_cons_succ, wp_ok, wipeE, len0, len1, len2, len3, len4, len5, len6, len7, len8, len9, len10, if_true, if_false, Bool.false_eq_true, eq_int, ne_int, gt_int, lt_int', le_int', ge_int', add_int, sub_int, abs_int, int_int, Option.map_some, src_lst, src_tup, ix_t0, ix_t1, ix_t2, ix_t3, ix_l0, ix_l1, ix_l2, is_non, and_true, true_and, m1, m3]))]
    have e3 : (cur.map fun x => Tv.int (Qr.sg (Qr.at' o (Qr.fp o)) * Qr.at' o (Qr.fp o) * x)) = (cur.map fun x => Qr.sg (Qr.at' o (Qr.fp o)) * Qr.at' o (Qr.fp o) * x).map Tv.int := by rw [List.map_map]; rfl
    have b4 : Bd (1 + (b + dn.length * (c + 1))) (0 - Qr.sg (Qr.at' o (Qr.fp o)) * Qr.at' cur (Qr.fp o)) := by rw [Int.zero_sub]; exact (Bd.sg.mul b2).neg
    have p14 := h14 S' (cur.map fun x => Qr.sg (Qr.at' o (Qr.fp o)) * Qr.at' o (Qr.fp o) * x) o _ _ _ b4 (hR o ho) (by omega) (by rw [List.length_map]; omega)
    rw [e3]
    (try simp only [exs_nil, q_asg, kR_eq, q_drop, kD_eq, q_ret, q_if, kI_t, kI_f, q_set, kS_eq, q_pass, q_brk, q_cont, q_for, kF_eq, List.cons_append, List.nil_append, w_var, t_var, w_int, w_str, w_bl, w_non, w_gl, w_bin, w_neg, t_cmp, w_cmp, t_chain, w_chain, t_isC, w_isC, w_isi, t_isi, t_bop1, t_bop, w_bop1, w_bop, t_nt, w_nt, w_ite, t_ite, w_nil, w_cons, a_tup, w_fz, w_mu, a_disp, a_comp, w_ofSeq, w_call, w_prim, w_ix, w_sl, w_rev, w_pop, w_popAt, w_app, e_nop, e_int, e_var, e_bin, i_seq, a_rng, rngA_int, a_rng2, rngB_int, a_zip, zipA_some, a_enum, enA_some, src_tsI, src_lsI, t_call, t_prim, tru_bl, opt_some, t_nop, List.getElem?_cons_zero, List.getElem?_cons_succ, setTg, setTgs, List.set_cons_zero, List.set_cons_succ, wp_ok, wipeE, len0, len1, len2, len3, len4, len5, len6, len7, len8, len9, len10, if_true, if_false, Bool.false_eq_true, eq_int, ne_int, gt_int, lt_int', le_int', ge_int', add_int, sub_int, abs_int, int_int, Option.map_some, src_lst, src_tup, ix_t0, ix_t1, ix_t2, ix_t3, ix_l0, ix_l1, ix_l2, is_non, and_true, true_and, tup_lst, m2])
    rw [show (Tv.tup ((cur.map fun x => Qr.sg (Qr.at' o (Qr.fp o)) * Qr.at' o (Qr.fp o) * x).map Tv.int)) = tsI (cur.map fun x => Qr.sg (Qr.at' o (Qr.fp o)) * Qr.at' o (Qr.fp o) * x) from rfl, p14]
    (try simp only [exs_nil, q_asg, kA_eq, kR_eq, q_drop, kD_eq, q_ret, q_if, kI_t, kI_f, q_set, kS_eq, q_pass, q_brk, q_cont, q_for, kF_eq, List.cons_append, List.nil_append, w_var, t_var, w_int, w_str, w_bl, w_non, w_gl, w_bin, w_neg, t_cmp, w_cmp, t_chain, w_chain, t_isC, w_isC, w_isi, t_isi, t_bop1, t_bop, w_bop1, w_bop, t_nt, w_nt, w_ite, t_ite, w_nil, w_cons, a_tup, w_fz, w_mu, a_disp, a_comp, w_ofSeq, w_call, w_prim, w_ix, w_sl, w_rev, w_pop, w_popAt, w_app, e_nop, e_int, e_var, e_bin, i_seq, a_rng, rngA_int, a_rng2, rngB_int, a_zip, zipA_some, a_enum, enA_some, src_tsI, src_lsI, t_call, t_prim, tru_bl, opt_some, t_nop, List.getElem?_cons_zero, List.getElem?_cons_succ, setTg, setTgs, List.set_cons_zero, List.set_cons_succ, wp_ok, wipeE, len0, len1, len2, len3, len4, len5, len6, len7, len8, len9, len10, if_true, if_false, Bool.false_eq_true, eq_int, ne_int, gt_int, lt_int', le_int', ge_int', add_int, sub_int, abs_int, int_int, Option.map_some, src_lst, src_tup, ix_t0, ix_t1, ix_t2, ix_t3, ix_l0, ix_l1, ix_l2, is_non, and_true, true_and])
    have e4 : List.zipWith (fun x y => x + (0 - Qr.sg (Qr.at' o (Qr.fp o)) * Qr.at' cur (Qr.fp o)) * y) (cur.map fun x => Qr.sg (Qr.at' o (Qr.fp o)) * Qr.at' o (Qr.fp o) * x) o = Qr.step cur o := by
      rw [List.zipWith_map_left]
      rfl
    rw [e4]
    refine ⟨_, _, _, _, _, _, Qr.step cur o, rfl, hc, by rw [Qr.step_len (by omega), hcl], fun x hx => (step_bd hcb (hR o ho) b1 b2 x hx).mono ?_⟩
    rw [List.length_append, List.length_singleton, Nat.add_mul, Nat.one_mul]
    omega
  · rintro env S' ⟨rfl, j2, j3, j4, j5, j6, j7, cur, rfl, hc, hcl, hcb⟩
    (try simp only [exs_nil, q_asg, kA_eq, kR_eq, q_drop, kD_eq, q_ret, q_if, kI_t, kI_f, q_set, kS_eq, q_pass, q_brk, q_cont, q_for, kF_eq, List.cons_append, List.nil_append, w_var, t_var, w_int, w_str, w_bl, w_non, w_gl, w_bin, w_neg, t_cmp, w_cmp, t_chain, w_chain, t_isC, w_isC, w_isi, t_isi, t_bop1, t_bop, w_bop1, w_bop, t_nt, w_nt, w_ite, t_ite, w_nil, w_cons, a_tup, w_fz, w_mu, a_disp, a_comp, w_ofSeq, w_call, w_prim, w_ix, w_sl, w_rev, w_pop, w_popAt, w_app, e_nop, e_int, e_var, e_bin, i_seq, a_rng, rngA_int, a_rng2, rngB_int, a_zip, zipA_some, a_enum, enA_some, src_tsI, src_lsI, t_call, t_prim, tru_bl, opt_some, t_nop, List.getElem?_cons_zero, List.getElem?_cons_succ, setTg, setTgs, List.set_cons_zero, List.set_cons_succ, wp_ok, wipeE, len0, len1, len2, len3, len4, len5, len6, len7, len8, len9, len10, if_true, if_false, Bool.false_eq_true, eq_int, ne_int, gt_int, lt_int', le_int', ge_int', add_int, sub_int, abs_int, int_int, Option.map_some, src_lst, src_tup, ix_t0, ix_t1, ix_t2, ix_t3, ix_l0, ix_l1, ix_l2, is_non, and_true, true_and])
    rw [← hc]
    rfl
end Mp
namespace Mp
/-! ### a list of one's own at the store's end -/
theorem end_at {S : Sto} {o : Ob} : (S ++ [o])[S.length]? = some o := by simp
theorem end_set {S : Sto} {o u : Ob} : (S ++ [o]).set S.length u = S ++ [u] := by simp
theorem end_take {S : Sto} {o : Ob} : (S ++ [o]).take S.length = S := by simp
theorem src_cell {S : Sto} {n : Nat} {ts : List Tv} (h : S[n]? = some (.lst ts)) : srcOf S (.cell n) = some (ts, [(n, ts)]) := by simp only [srcOf, h]
theorem stays_cell {S : Sto} {n : Nat} {ts : List Tv} (h : S[n]? = some (.lst ts)) : stays [(n, ts)] S = true := by simp [stays, h]
theorem app_at {S : Sto} {n : Nat} {ts : List Tv} {y : Tv} {Q : Tv → Sto → Prop} (h : S[n]? = some (.lst ts)) (hl : ts.length ≤ 100000) : (appL (.cell n) y S).wp Q = Q .non (S.set n (.lst (ts ++ [y]))) := by
  have e : appL (.cell n) y S = .ok .non (S.set n (.lst (ts ++ [y]))) := by
    simp only [appL, h]
    rw [if_pos (by simp [lim]; omega)]
  rw [e, wp_ok]
theorem tup_cell {S : Sto} {n : Nat} {ts : List Tv} (h : S[n]? = some (.lst ts)) : primV .tuple S [.cell n] = some (.tup ts) := by simp only [primV, seqOf, h, Option.map_some]
theorem isZero_isZ {cf : Nat → List Tv → M Tv} {S : Sto} {ns : List Int} (hl : ns.length ≤ 1000) : runD cf xIsZero [tsI ns] S = .ok (.bl (Qr.isZ ns)) S := isZero_ok hl
theorem noCells_rows : ∀ R : List (List Int), Tv.noCells (R.map tsI) = true
  | [] => rfl
  | r :: R => by
    have h : ∀ ns : List Int, Tv.noCells (ns.map Tv.int) = true := fun ns => by
      induction ns with
      | nil => rfl
      | cons n ns ih => simp [Tv.noCells, Tv.noCell, ih]
    rw [List.map_cons, Tv.noCells, noCells_rows R, tsI, Tv.noCell, h]
    rfl
theorem kI_nt {cf : Nat → List Tv → M Tv} {m : Nat} {a b r : List Sx} {env : Env} {D : Po} {k : Bool} {S : Sto} : kI cf m a b r env D k S = if k = true then (exs cf m (a ++ r) env S).wp D else (exs cf m (b ++ r) env S).wp D := by cases k <;> rfl
/-- bits of the rows reduced so far -/
def Bs (b : Nat) : Nat → Nat
  | 0 => b
  | j + 1 => b + j * (Bs b j + 1)
theorem Bs_step (b j : Nat) : Bs b j ≤ Bs b (j + 1) := by
  cases j with
  | zero => simp [Bs]
  | succ j =>
    rw [Bs.eq_def b (j + 1 + 1)]
    have : Bs b (j + 1) + 1 ≤ (j + 1) * (Bs b (j + 1) + 1) := Nat.le_mul_of_pos_left _ (by omega)
    show Bs b (j + 1) ≤ b + (j + 1) * (Bs b (j + 1) + 1)
    omega
theorem Bs_mono (b : Nat) {i j : Nat} (h : i ≤ j) : Bs b i ≤ Bs b j := by
  induction h with
  | refl => exact Nat.le_refl _
  | step _ ih => exact Nat.le_trans ih (Bs_step b _)
theorem push_bd {b j n : Nat} {R : List (List Int)} {r : List Int} (hR : ∀ o ∈ R, ∀ x ∈ o, Bd (Bs b j) x) (hl : R.length ≤ j) (hr : ∀ x ∈ r, Bd b x) :
    (∀ o ∈ Qr.push R r, ∀ x ∈ o, Bd (Bs b (j + 1)) x) ∧ (Qr.push R r).length ≤ j + 1 ∧ ∀ x ∈ Qr.clear r R, Bd (Bs b (j + 1)) x := by
  have hc : ∀ x ∈ Qr.clear r R, Bd (Bs b (j + 1)) x := fun x hx => (clear_bds R r b hR hr x hx).mono (by
    show _ ≤ b + j * (Bs b j + 1)
    have := Nat.mul_le_mul_right (Bs b j + 1) hl
    omega)
  refine ⟨fun o ho x hx => ?_, ?_, hc⟩
  · unfold Qr.push at ho
    split at ho
    · exact (hR o ho x hx).mono (Bs_step b j)
    · rcases List.mem_append.mp ho with k | k
      · exact (hR o k x hx).mono (Bs_step b j)
      · rw [List.mem_singleton.mp k] at hx
        exact low_bd hc x hx
  · unfold Qr.push
    split
    · omega
    · rw [List.length_append, List.length_singleton]; omega
theorem redFrom_bd {b : Nat} : ∀ {rs R : List (List Int)} {j : Nat}, (∀ o ∈ R, ∀ x ∈ o, Bd (Bs b j) x) → R.length ≤ j → (∀ r ∈ rs, ∀ x ∈ r, Bd b x) → (∀ o ∈ Qr.redFrom R rs, ∀ x ∈ o, Bd (Bs b (j + rs.length)) x) ∧ (Qr.redFrom R rs).length ≤ j + rs.length
  | [], R, j, h, hl, _ => by simpa [Qr.redFrom] using And.intro h hl
  | r :: rs, R, j, h, hl, hr => by
    obtain ⟨h1, h2, _⟩ := push_bd (n := 0) h hl (hr r List.mem_cons_self)
    have := redFrom_bd (rs := rs) h1 h2 fun u hu => hr u (List.mem_cons_of_mem _ hu)
    rw [Qr.redFrom, List.length_cons]
    have e : j + (rs.length + 1) = j + 1 + rs.length := by omega
    rw [e]
    exact this
theorem red_bd {b : Nat} {rs : List (List Int)} (hr : ∀ r ∈ rs, ∀ x ∈ r, Bd b x) : (∀ o ∈ Qr.red rs, ∀ x ∈ o, Bd (Bs b rs.length) x) ∧ (Qr.red rs).length ≤ rs.length := by
  have := redFrom_bd (rs := rs) (R := []) (j := 0) (b := b) (fun o h => (List.not_mem_nil h).elim) (Nat.le_refl _) hr
  rwa [Nat.zero_add] at this
/-- what the program's defs of rows are worth -/
structure RowDefs (cf : Nat → List Tv → M Tv) : Prop where
  zero : ∀ (S : Sto) (ns : List Int), ns.length ≤ 1000 → cf 4 [tsI ns] S = .ok (.bl (Qr.isZ ns)) S
  low : ∀ (S : Sto) (ns : List Int) (k : Nat), (∀ n ∈ ns, Bd k n) → k ≤ 8000 → ns.length ≤ 1000 → cf 15 [tsI ns] S = .ok (tsI (Qr.low ns)) S
  clear : ∀ (S : Sto) (rows : Tv) (R : List (List Int)) (w : List (Nat × List Tv)) (r : List Int) (b c n : Nat), srcOf S rows = some (R.map tsI, w) → stays w S = true → (∀ x ∈ r, Bd b x) → (∀ o ∈ R, ∀ x ∈ o, Bd c x) →
    (∀ o ∈ R, o.length = n ∧ Qr.isZ o = false) → r.length = n → n ≤ 1000 → b + R.length * (c + 1) + c ≤ 400000 → cf 17 [tsI r, rows] S = .ok (tsI (Qr.clear r R)) S
theorem redFrom_app : ∀ {a R b : List (List Int)}, Qr.redFrom R (a ++ b) = Qr.redFrom (Qr.redFrom R a) b
  | [], R, b => rfl
  | x :: a, R, b => by rw [List.cons_append, Qr.redFrom, Qr.redFrom, redFrom_app]
theorem red_pre {dn : List (List Int)} {o : List Int} : Qr.red (dn ++ [o]) = Qr.push (Qr.red dn) o := by
  unfold Qr.red
  rw [redFrom_app]
  rfl
theorem red_len {rs : List (List Int)} : (Qr.red rs).length ≤ rs.length := by
  have go : ∀ {rs R : List (List Int)}, (Qr.redFrom R rs).length ≤ R.length + rs.length := by
    intro rs
    induction rs with
    | nil => intro R; simp [Qr.redFrom]
    | cons r rs ih =>
      intro R
      rw [Qr.redFrom]
      have h1 := ih (R := Qr.push R r)
      have h2 : (Qr.push R r).length ≤ R.length + 1 := by
        unfold Qr.push
        split
        · omega
        · rw [List.length_append, List.length_singleton]; omega
      rw [List.length_cons]
      omega
  have := go (rs := rs) (R := [])
  simpa [Qr.red] using this
theorem red_mem {K : Nat} {rs : List (List Int)} (hP : ∀ dn o r, rs = dn ++ o :: r → ∀ x ∈ Qr.clear o (Qr.red dn), Bd K x) : ∀ o ∈ Qr.red rs, ∀ x ∈ o, Bd K x := by
  have go : ∀ (r dn : List (List Int)), rs = dn ++ r → (∀ o ∈ Qr.red dn, ∀ x ∈ o, Bd K x) → ∀ o ∈ Qr.red rs, ∀ x ∈ o, Bd K x := by
    intro r
    induction r with
    | nil => intro dn e h; rw [e, List.append_nil]; exact h
    | cons o r ih =>
      intro dn e h
      refine ih (dn ++ [o]) (by rw [e]; simp) ?_
      rw [red_pre]
      intro u hu
      unfold Qr.push at hu
      split at hu
      · exact h u hu
      · rcases List.mem_append.mp hu with k | k
        · exact h u k
        · rw [List.mem_singleton.mp k]
          exact low_bd (hP dn o r e)
  exact go rs [] rfl fun o h => (List.not_mem_nil h).elim
theorem reduced_gen {cf : Nat → List Tv → M Tv} (h : RowDefs cf) {S : Sto} {rs : List (List Int)} {n K : Nat} (hr : ∀ r ∈ rs, r.length = n ∧ ∀ x ∈ r, Bd K x) (hn : n ≤ 1000) (hl : rs.length ≤ 40) (hK : K ≤ 8000)
    (hP : ∀ dn o r, rs = dn ++ o :: r → ∀ x ∈ Qr.clear o (Qr.red dn), Bd K x) :
    runD cf xReduced [.tup (rs.map tsI)] S = .ok (.tup ((Qr.red rs).map tsI)) S := by
  obtain ⟨t, e, rfl⟩ := run_own (cf := cf) (d := xReduced) (as := [.tup (rs.map tsI)]) (S := S) (Q := fun t => t = .tup ((Qr.red rs).map tsI)) rfl (by
    show (exs cf Fu xReduced.body [some (.tup (rs.map tsI)), none, none] S).wp _
    unfold xReduced
    (try simp only [exs_nil, q_asg, kA_eq, kR_eq, q_drop, kD_eq, q_ret, q_if, kI_t, kI_f, q_set, kS_eq, q_pass, q_brk, q_cont, q_for, kF_eq, List.cons_append, List.nil_append, w_var, t_var, w_int, w_str, w_bl, w_non, w_gl, w_bin, w_neg, t_cmp, w_cmp, t_chain, w_chain, t_isC, w_isC, w_isi, t_isi, t_bop1, t_bop, w_bop1, w_bop, t_nt, w_nt, w_ite, t_ite, w_nil, w_cons, a_tup, w_fz, w_mu, a_disp, a_comp, w_ofSeq, w_call, w_prim, w_ix, w_sl, w_rev, w_pop, w_popAt, w_app, e_nop, e_int, e_var, e_bin, i_seq, a_rng, rngA_int, a_rng2, rngB_int, a_zip, zipA_some, a_enum, enA_some, src_tsI, src_lsI, t_call, t_prim, tru_bl, opt_some, t_nop, List.getElem?_cons_zero, List.getElem?_cons_succ, setTg, setTgs, List.set_cons_zero, List.set_cons_succ, wp_ok, wipeE, len0, len1, len2, len3, len4, len5, len6, len7, len8, len9, len10, if_true, if_false, Bool.false_eq_true, eq_int, ne_int, gt_int, lt_int', le_int', ge_int', add_int, sub_int, abs_int, int_int, Option.map_some, src_lst, src_tup, ix_t0, ix_t1, ix_t2, ix_t3, ix_l0, ix_l1, ix_l2, is_non, and_true, true_and])
    refine for_on (fun dn r env S' => ∃ j2 : Option Tv, env = [some (.tup (rs.map tsI)), some (.cell S.length), j2] ∧ S' = S ++ [.lst ((Qr.red dn).map tsI)]) (fun _ _ _ _ _ => rfl) ?_ ?_ ⟨none, rfl, rfl⟩
    · rintro dn o r env S' hx ⟨j2, rfl, rfl⟩
      have ho : o ∈ rs := by rw [hx]; simp
      obtain ⟨ol, ob⟩ := hr o ho
      have hlen : dn.length + 1 ≤ rs.length := by rw [hx, List.length_append, List.length_cons]; omega
      have p3 := hP dn o r hx
      have ok := Qr.red_ok (n := n) (rs := dn) fun u hu => (hr u (by rw [hx]; exact List.mem_append_left _ hu)).1
      have fl := red_len (rs := dn)
      have fb : ∀ o ∈ Qr.red dn, ∀ x ∈ o, Bd K x := red_mem fun a u c e => hP a u (c ++ o :: r) (by rw [hx, e]; simp)
      have nx := red_pre (dn := dn) (o := o)
      generalize hF : Qr.red dn = F at *
      have mm : F.length * (K + 1) ≤ 40 * 8001 := Nat.mul_le_mul (by omega) (by omega)
      have c17 := h.clear (S ++ [.lst (F.map tsI)]) (.cell S.length) F _ o K K n (src_cell end_at) (stays_cell end_at) ob fb (fun u hu => ⟨ok.len u hu, ok.nz u hu⟩) ol hn (by omega)
      have cl : (Qr.clear o F).length = n := by rw [Qr.clear_len (fun u hu => by rw [ok.len u hu, ol]), ol]
      have c15 := h.low (S ++ [.lst (F.map tsI)]) (Qr.clear o F) _ p3 (by omega) (by omega)
      have c4 := h.zero (S ++ [.lst (F.map tsI)]) (Qr.low (Qr.clear o F)) (by rw [Qr.low_len]; omega)
      cases hz : Qr.isZ (Qr.low (Qr.clear o F)) with
      | true =>
        rw [hz] at c4
        (try simp only [exs_nil, q_asg, kA_eq, kR_eq, q_drop, kD_eq, q_ret, q_if, kI_t, kI_f, q_set, kS_eq, q_pass, q_brk, q_cont, q_for, kF_eq, List.cons_append, List.nil_append, w_var, t_var, w_int, w_str, w_bl, w_non, w_gl, w_bin, w_neg, t_cmp, w_cmp, t_chain, w_chain, t_isC, w_isC, w_isi, t_isi, t_bop1, t_bop, w_bop1, w_bop, t_nt, w_nt, w_ite, t_ite, w_nil, w_cons, a_tup, w_fz, w_mu, a_disp, a_comp, w_ofSeq, w_call, w_prim, w_ix, w_sl, w_rev, w_pop, w_popAt, w_app, e_nop, e_int, e_var, e_bin, i_seq, a_rng, rngA_int, a_rng2, rngB_int, a_zip, zipA_some, a_enum, enA_some, src_tsI, src_lsI, t_call, t_prim, tru_bl, opt_some, t_nop, List.getElem?_cons_zero, List.getElem?_cons_succ, setTg, setTgs, List.set_cons_zero, List.set_cons_succ, wp_ok, wipeE, len0, len1, len2, len3, len4, len5, len6, len7, len8, len9, len10, if_true, if_false, Bool.false_eq_true, eq_int, ne_int, gt_int, lt_int', le_int', ge_int', add_int, sub_int, abs_int, int_int, Option.map_some, src_lst, src_tup, ix_t0, ix_t1, ix_t2, ix_t3, ix_l0, ix_l1, ix_l2, is_non, and_true, true_and, c17, c15, c4, Bool.not_true])
        have e : Qr.push F o = F := by unfold Qr.push; rw [if_pos hz]
        refine ⟨_, rfl, ?_⟩
        rw [nx, e]
      | false =>
        rw [hz] at c4
        have e : Qr.push F o = F ++ [Qr.low (Qr.clear o F)] := by unfold Qr.push; rw [if_neg (by rw [hz]; decide)]
        (try simp only [exs_nil, q_asg, kA_eq, kR_eq, q_drop, kD_eq, q_ret, q_if, kI_t, kI_f, q_set, kS_eq, q_pass, q_brk, q_cont, q_for, kF_eq, List.cons_append, List.nil_append, w_var, t_var, w_int, w_str, w_bl, w_non, w_gl, w_bin, w_neg, t_cmp, w_cmp, t_chain, w_chain, t_isC, w_isC, w_isi, t_isi, t_bop1, t_bop, w_bop1, w_bop, t_nt, w_nt, w_ite, t_ite, w_nil, w_cons, a_tup, w_fz, w_mu, a_disp, a_comp, w_ofSeq, w_call, w_prim, w_ix, w_sl, w_rev, w_pop, w_popAt, w_app, e_nop, e_int, e_var, e_bin, i_seq, a_rng, rngA_int, a_rng2, rngB_int, a_zip, zipA_some, a_enum, enA_some, src_tsI, src_lsI, t_call, t_prim, tru_bl, opt_some, t_nop, List.getElem?_cons_zero, List.getElem?_cons_succ, setTg, setTgs, List.set_cons_zero, List.set_cons_succ, wp_ok, wipeE, len0, len1, len2, len3, len4, len5, len6, len7, len8, len9, len10, if_true, if_false, Bool.false_eq_true, eq_int, ne_int, gt_int, lt_int', le_int', ge_int', add_int, sub_int, abs_int, int_int, Option.map_some, src_lst, src_tup, ix_t0, ix_t1, ix_t2, ix_t3, ix_l0, ix_l1, ix_l2, is_non, and_true, true_and, c17, c15, c4, Bool.not_false, need_at (end_at (S := S) (o := .lst (F.map tsI))), app_at (end_at (S := S) (o := .lst (F.map tsI))) (y := tsI (Qr.low (Qr.clear o F))) (by rw [List.length_map]; omega), end_set])
        refine ⟨_, rfl, ?_⟩
        rw [nx, e, List.map_append]
        rfl
    · rintro env S' ⟨j2, rfl, rfl⟩
      (try simp only [exs_nil, q_asg, kA_eq, kR_eq, q_drop, kD_eq, q_ret, q_if, kI_t, kI_f, q_set, kS_eq, q_pass, q_brk, q_cont, q_for, kF_eq, List.cons_append, List.nil_append, w_var, t_var, w_int, w_str, w_bl, w_non, w_gl, w_bin, w_neg, t_cmp, w_cmp, t_chain, w_chain, t_isC, w_isC, w_isi, t_isi, t_bop1, t_bop, w_bop1, w_bop, t_nt, w_nt, w_ite, t_ite, w_nil, w_cons, a_tup, w_fz, w_mu, a_disp, a_comp, w_ofSeq, w_call, w_prim, w_ix, w_sl, w_rev, w_pop, w_popAt, w_app, e_nop, e_int, e_var, e_bin, i_seq, a_rng, rngA_int, a_rng2, rngB_int, a_zip, zipA_some, a_enum, enA_some, src_tsI, src_lsI, t_call, t_prim, tru_bl, opt_some, t_nop, List.getElem?_cons_zero, List.getElem?_cons_succ, setTg, setTgs, List.set_cons_zero, List.set_cons_succ, wp_ok, wipeE, len0, len1, len2, len3, len4, len5, len6, len7, len8, len9, len10, if_true, if_false, Bool.false_eq_true, eq_int, ne_int, gt_int, lt_int', le_int', ge_int', add_int, sub_int, abs_int, int_int, Option.map_some, src_lst, src_tup, ix_t0, ix_t1, ix_t2, ix_t3, ix_l0, ix_l1, ix_l2, is_non, and_true, true_and, tup_cell (end_at (S := S) (o := .lst ((Qr.red rs).map tsI))), end_take, Tv.noCell, noCells_rows]))
  exact e
theorem reduced_bd {cf : Nat → List Tv → M Tv} (h : RowDefs cf) {S : Sto} {rs : List (List Int)} {n b : Nat} (hr : ∀ r ∈ rs, r.length = n ∧ ∀ x ∈ r, Bd b x) (hn : n ≤ 1000) (hl : rs.length ≤ 40) (hb : Bs b rs.length ≤ 8000) :
    runD cf xReduced [.tup (rs.map tsI)] S = .ok (.tup ((Qr.red rs).map tsI)) S := by
  refine reduced_gen h (fun r hr' => ⟨(hr r hr').1, fun x hx => ((hr r hr').2 x hx).mono (Bs_mono b (Nat.zero_le rs.length))⟩) hn hl hb fun dn o r e x hx => ?_
  have hd := red_bd (b := b) (rs := dn) fun u hu => (hr u (by rw [e]; exact List.mem_append_left _ hu)).2
  have := (push_bd (n := 0) (R := Qr.red dn) (j := dn.length) (b := b) (r := o) hd.1 hd.2 (hr o (by rw [e]; simp)).2).2.2 x hx
  exact this.mono (Bs_mono b (by rw [e, List.length_append, List.length_cons]; omega))
/-- rows that are reduced -/
theorem reduced_same {cf : Nat → List Tv → M Tv} (h : RowDefs cf) {S : Sto} {rs : List (List Int)} {n c : Nat} (hf : Qr.Full n rs) (hr : ∀ r ∈ rs, ∀ x ∈ r, Bd c x) (hn : n ≤ 1000) (hl : rs.length ≤ 40) (hb : c + rs.length * (c + 1) ≤ 8000) :
    runD cf xReduced [.tup (rs.map tsI)] S = .ok (.tup (rs.map tsI)) S := by
  have same : ∀ dn r, rs = dn ++ r → Qr.red dn = dn := fun dn r e => by
    have hf' : Qr.Full n ([] ++ dn) := by
      refine ⟨⟨fun o ho => hf.len o (by rw [e]; exact List.mem_append_left _ ho), fun o ho => hf.nz o (by rw [e]; exact List.mem_append_left _ ho), ?_⟩, fun o ho => hf.prim o (by rw [e]; exact List.mem_append_left _ ho)⟩
      have := hf.tri
      rw [e] at this
      exact (List.pairwise_append.mp this).1
    exact Qr.redFrom_same (R := []) hf'
  have z := reduced_gen h (S := S) (rs := rs) (n := n) (K := c + rs.length * (c + 1)) (fun r hr' => ⟨hf.len r hr', fun x hx => (hr r hr' x hx).mono (by omega)⟩) hn hl hb fun dn o r e x hx => by
    rw [same dn _ e] at hx
    refine (clear_bds dn o c (fun u hu => hr u (by rw [e]; exact List.mem_append_left _ hu)) (hr o (by rw [e]; simp)) x hx).mono ?_
    have : dn.length * (c + 1) ≤ rs.length * (c + 1) := Nat.mul_le_mul_right _ (by rw [e, List.length_append]; omega)
    omega
  rw [same rs [] (by simp)] at z
  exact z
end Mp
namespace Mp
/-! ### the law's own reduction -/
def xLawReduced : Df := ⟨11, 1,
  [
    .asg (.v 1) (.mu (.disp [])),
    .forS (.v 2) (.seq (.var 0))
      [
        .asg (.v 3) (.fz (.ofSeq (.var 2))),
        .forS (.tup [(.v 5), (.v 6)]) (.seq (.var 1))
          [
            .asg (.tup [(.v 7), (.v 8)]) (.tup [(.prim .abs [(.ix (.var 6) (.var 5))]), (.bin .mul (.ix (.var 3) (.var 5)) (.ite (.cmp .gt (.ix (.var 6) (.var 5)) (.int 0)) (.int 1) (.neg (.int 1))))]),
            .asg (.v 3) (.fz (.comp [9, 10] (.bin .sub (.bin .mul (.var 7) (.var 9)) (.bin .mul (.var 8) (.var 10))) (.tup [(.v 9), (.v 10)]) (.zip (.var 3) (.var 6)) .nop))],
        .asg (.v 3) (.call 11 [(.var 3)]),
        .asg (.v 4) (.fz (.comp [5] (.var 5) (.v 5) (.rng (.prim .len [(.var 3)])) (.cmp .ne (.ix (.var 3) (.var 5)) (.int 0)))),
        .ifS (.cmp .ne (.var 4) (.fz (.disp [])))
          [
            .drop (.app (.var 1) (.tup [(.ix (.var 4) (.int 0)), (.var 3)]))]
          []],
    .ret (.prim .tuple [(.fz (.comp [5, 2] (.var 2) (.tup [(.v 5), (.v 2)]) (.seq (.var 1)) .nop))])]⟩
def fpT (r : List Int) : Tv := .tup [.int (Qr.fp r : Int), tsI r]
theorem ix_atl {S : Sto} {r : List Int} {p : Nat} (h : p < r.length) : ixV S (lsI r) (.int p) = some (.int (Qr.at' r p)) := ix_at (S := S) h
theorem ne_lst {S : Sto} {ns : List Int} : cmpV .ne S (lsI ns) (.lst []) = some (!ns.isEmpty) := by
  have d := dOks_ints 15 ns
  cases ns with
  | nil => simp [lsI, cmpV, eqS, eqS0, thaw, Tv.dOk, Tv.dOks, Tv.eqb, Tv.eqbs]
  | cons n r =>
    simp only [List.map_cons] at d
    simp [lsI, cmpV, eqS, eqS0, thaw, Tv.dOk, Tv.dOks, Tv.eqb, Tv.eqbs]
    exact (by simpa [Tv.dOks] using d : _ ∧ Tv.dOks 15 (r.map Tv.int) = true).2
theorem step_law {r o : List Int} : List.zipWith (fun x y => ((Qr.at' o (Qr.fp o)).natAbs : Int) * x - (Qr.at' r (Qr.fp o) * Qr.sg (Qr.at' o (Qr.fp o))) * y) r o = Qr.step r o := by
  unfold Qr.step Qr.comb
  congr 1
  funext x y
  rw [Qr.sg_mul, Int.zero_sub, Int.neg_mul, Int.mul_comm (Qr.at' r (Qr.fp o)), ← Int.sub_eq_add_neg]
theorem fp_range {r : List Int} : ∀ (n : Nat), (∀ q, q < n → Qr.at' r q = 0) ∧ (List.range n).filter (fun p => !(Qr.at' r p == 0)) = [] ∨ (∃ p rest, p < n ∧ Qr.at' r p ≠ 0 ∧ (∀ q, q < p → Qr.at' r q = 0) ∧ (List.range n).filter (fun p => !(Qr.at' r p == 0)) = p :: rest)
  | 0 => .inl ⟨fun q h => absurd h (Nat.not_lt_zero q), rfl⟩
  | n + 1 => by
    rw [List.range_succ, List.filter_append]
    rcases fp_range (r := r) n with ⟨h1, h2⟩ | ⟨p, rest, hp, hz, hq, h2⟩
    · rw [h2, List.nil_append]
      by_cases hz : Qr.at' r n = 0
      · refine .inl ⟨fun q hq => ?_, by simp [hz]⟩
        by_cases e : q = n
        · rw [e]; exact hz
        · exact h1 q (by omega)
      · exact .inr ⟨n, [], by omega, hz, h1, by simp [hz]⟩
    · rw [h2]
      exact .inr ⟨p, _, by omega, hz, hq, rfl⟩
theorem fp_unique : ∀ {r : List Int} {p : Nat}, Qr.at' r p ≠ 0 → (∀ q, q < p → Qr.at' r q = 0) → Qr.fp r = p ∧ Qr.isZ r = false
  | [], p, h, _ => by simp [Qr.at'] at h
  | x :: r, 0, h, _ => by
    have hx : x ≠ 0 := by simpa [Qr.at'] using h
    exact ⟨by simp [Qr.fp, hx], by simp [Qr.isZ, hx]⟩
  | x :: r, p + 1, h, hq => by
    have hx : x = 0 := by simpa [Qr.at'] using hq 0 (by omega)
    obtain ⟨h1, h2⟩ := fp_unique (r := r) (p := p) (by simpa [Qr.at'] using h) fun q hq' => by simpa [Qr.at'] using hq (q + 1) (by omega)
    exact ⟨by simp [Qr.fp, hx, h1], by subst hx; simpa [Qr.isZ] using h2⟩
theorem fp_places {r : List Int} : (Qr.isZ r = true ∧ (List.range r.length).filter (fun p => !(Qr.at' r p == 0)) = []) ∨ (Qr.isZ r = false ∧ ∃ rest, (List.range r.length).filter (fun p => !(Qr.at' r p == 0)) = Qr.fp r :: rest) := by
  rcases fp_range (r := r) r.length with ⟨h1, h2⟩ | ⟨p, rest, hp, hz, hq, h2⟩
  · refine .inl ⟨Qr.isZ_iff.mpr fun x hx => ?_, h2⟩
    obtain ⟨i, hi, rfl⟩ := List.mem_iff_getElem.mp hx
    have := h1 i hi
    unfold Qr.at' at this
    rw [List.getD_eq_getElem?_getD, List.getElem?_eq_getElem hi] at this
    exact this
  · obtain ⟨e1, e2⟩ := fp_unique hz hq
    rw [e1]
    exact .inr ⟨e2, rest, h2⟩
theorem lawReduced_bd {cf : Nat → List Tv → M Tv} (h11 : ∀ (S : Sto) (ns : List Int) (k : Nat), (∀ n ∈ ns, Bd k n) → k ≤ 990 → ns.length ≤ 1000 → cf 11 [lsI ns] S = .ok (tsI (Qr.low ns)) S) {S : Sto} {rs : List (List Int)} {n b : Nat} (hr : ∀ r ∈ rs, r.length = n ∧ ∀ x ∈ r, Bd b x) (hn : n ≤ 1000) (hl : rs.length ≤ 1000) (hb : Bs b rs.length ≤ 990) :
    runD cf xLawReduced [.tup (rs.map tsI)] S = .ok (.tup ((Qr.red rs).map tsI)) S := by
  obtain ⟨t, e, rfl⟩ := run_own (cf := cf) (d := xLawReduced) (as := [.tup (rs.map tsI)]) (S := S) (Q := fun t => t = .tup ((Qr.red rs).map tsI)) rfl (by
    show (exs cf Fu xLawReduced.body [some (.tup (rs.map tsI)), none, none, none, none, none, none, none, none, none, none] S).wp _
    unfold xLawReduced
    (try simp only [exs_nil, q_asg, kA_eq, kR_eq, q_drop, kD_eq, q_ret, q_if, kI_t, kI_f, q_set, kS_eq, q_pass, q_brk, q_cont, q_for, kF_eq, List.cons_append, List.nil_append, w_var, t_var, w_int, w_str, w_bl, w_non, w_gl, w_bin, w_neg, t_cmp, w_cmp, t_chain, w_chain, t_isC, w_isC, w_isi, t_isi, t_bop1, t_bop, w_bop1, w_bop, t_nt, w_nt, w_ite, t_ite, w_nil, w_cons, a_tup, w_fz, w_mu, a_disp, a_comp, w_ofSeq, w_call, w_prim, w_ix, w_sl, w_rev, w_pop, w_popAt, w_app, e_nop, e_int, e_var, e_bin, i_seq, a_rng, rngA_int, a_rng2, rngB_int, a_zip, zipA_some, a_enum, enA_some, src_tsI, src_lsI, t_call, t_prim, tru_bl, opt_some, t_nop, List.getElem?_cons_zero, List.getElem?_cons_succ, setTg, setTgs, List.set_cons_zero, List.set_cons_succ, wp_ok, wipeE, len0, len1, len2, len3, len4, len5, len6, len7, len8, len9, len10, if_true, if_false, Bool.false_eq_true, eq_int, ne_int, gt_int, lt_int', le_int', ge_int', add_int, sub_int, abs_int, int_int, Option.map_some, src_lst, src_tup, ix_t0, ix_t1, ix_t2, ix_t3, ix_l0, ix_l1, ix_l2, is_non, and_true, true_and])
    refine for_on (fun dn r env S' => ∃ j2 j3 j4 j5 j6 j7 j8 j9 j10 : Option Tv, ∃ F : List (List Int), env = [some (.tup (rs.map tsI)), some (.cell S.length), j2, j3, j4, j5, j6, j7, j8, j9, j10] ∧ S' = S ++ [.lst (F.map fpT)] ∧ Qr.redFrom F r = Qr.red rs ∧ Qr.Ok n F ∧ F.length ≤ dn.length ∧ ∀ o ∈ F, ∀ x ∈ o, Bd (Bs b dn.length) x) (fun _ _ _ _ _ => rfl) ?_ ?_ ⟨_, _, _, _, _, _, _, _, _, [], rfl, rfl, rfl, Qr.Ok.nil, Nat.le_refl _, fun o h => (List.not_mem_nil h).elim⟩
    · rintro dn o r env S' hx ⟨j2, j3, j4, j5, j6, j7, j8, j9, j10, F, rfl, rfl, hF, ok, fl, fb⟩
      have ho : o ∈ rs := by rw [hx]; simp
      obtain ⟨ol, ob⟩ := hr o ho
      have hlen : dn.length + 1 ≤ rs.length := by rw [hx, List.length_append, List.length_cons]; omega
      obtain ⟨p1, p2, p3⟩ := push_bd (n := n) fb fl ob
      have bm := Bs_mono b hlen
      have bm0 := Bs_mono b (show dn.length ≤ rs.length by omega)
      have bb : b ≤ Bs b rs.length := Bs_mono b (Nat.zero_le rs.length)
      have mm : F.length * (Bs b dn.length + 1) ≤ 1000 * 991 := Nat.mul_le_mul (by omega) (by omega)
      have cl : (Qr.clear o F).length = n := by rw [Qr.clear_len (fun u hu => by rw [ok.len u hu, ol]), ol]
      have okp := ok.push (r := o) ol
      have hF' : Qr.redFrom (Qr.push F o) r = Qr.red rs := hF
      have fin : Bs b (dn.length + 1) = b + dn.length * (Bs b dn.length + 1) := rfl
      have so : ∀ S, seqOf S (tsI o) = some (o.map Tv.int) := fun S => rfl
      (try simp only [exs_nil, q_asg, kA_eq, kR_eq, q_drop, kD_eq, q_ret, q_if, kI_t, kI_f, q_set, kS_eq, q_pass, q_brk, q_cont, q_for, kF_eq, List.cons_append, List.nil_append, w_var, t_var, w_int, w_str, w_bl, w_non, w_gl, w_bin, w_neg, t_cmp, w_cmp, t_chain, w_chain, t_isC, w_isC, w_isi, t_isi, t_bop1, t_bop, w_bop1, w_bop, t_nt, w_nt, w_ite, t_ite, w_nil, w_cons, a_tup, w_fz, w_mu, a_disp, a_comp, w_ofSeq, w_call, w_prim, w_ix, w_sl, w_rev, w_pop, w_popAt, w_app, e_nop, e_int, e_var, e_bin, i_seq, a_rng, rngA_int, a_rng2, rngB_int, a_zip, zipA_some, a_enum, enA_some, src_tsI, src_lsI, t_call, t_prim, tru_bl, opt_some, t_nop, List.getElem?_cons_zero, List.getElem?_cons_succ, setTg, setTgs, List.set_cons_zero, List.set_cons_succ, wp_ok, wipeE, len0, len1, len2, len3, len4, len5, len6, len7, len8, len9, len10, if_true, if_false, Bool.false_eq_true, eq_int, ne_int, gt_int, lt_int', le_int', ge_int', add_int, sub_int, abs_int, int_int, Option.map_some, src_lst, src_tup, ix_t0, ix_t1, ix_t2, ix_t3, ix_l0, ix_l1, ix_l2, is_non, and_true, true_and, so, src_cell (end_at (S := S) (o := .lst (F.map fpT)))])
      refine for_on (fun dn2 r env S' => S' = S ++ [.lst (F.map fpT)] ∧ ∃ j4 j5 j6 j7 j8 j9 j10 : Option Tv, ∃ cur : List Int, env = [some (.tup (rs.map tsI)), some (.cell S.length), some (tsI o), some (lsI cur), j4, j5, j6, j7, j8, j9, j10] ∧ Qr.clear cur r = Qr.clear o F ∧ cur.length = n ∧ ∀ x ∈ cur, Bd (b + dn2.length * (Bs b dn.length + 1)) x) (fun _ _ _ _ q => by rw [q.1]; exact stays_cell end_at) ?_ ?_ ⟨rfl, _, _, _, _, _, _, _, o, rfl, rfl, ol, by simpa using ob⟩
      · rintro dn2 u r2 env S' hx2 ⟨rfl, j4, j5, j6, j7, j8, j9, j10, cur, rfl, hc, hcl, hcb⟩
        have hu : u ∈ F := by rw [hx2]; simp
        have lu := ok.len u hu
        have zu := ok.nz u hu
        have fl2 := Qr.fp_lt zu
        have hl2 : dn2.length + 1 ≤ F.length := by rw [hx2, List.length_append, List.length_cons]; omega
        have hmul : (dn2.length + 1) * (Bs b dn.length + 1) ≤ dn.length * (Bs b dn.length + 1) := Nat.mul_le_mul_right _ (by omega)
        rw [Nat.add_mul, Nat.one_mul] at hmul
        have b1 : Bd (Bs b dn.length) (Qr.at' u (Qr.fp u)) := bd_at (fb u hu)
        have b2 : Bd (b + dn2.length * (Bs b dn.length + 1)) (Qr.at' cur (Qr.fp u)) := bd_at hcb
        have i1 : ∀ S, ixV S (tsI u) (.int (Qr.fp u)) = some (.int (Qr.at' u (Qr.fp u))) := fun S => ix_at fl2
        have i2 : ∀ S, ixV S (lsI cur) (.int (Qr.fp u)) = some (.int (Qr.at' cur (Qr.fp u))) := fun S => ix_atl (by omega)
        have e1 : ∀ (S : Sto) (Q : Tv → Sto → Prop), (if decide (0 < Qr.at' u (Qr.fp u)) = true then (opt (binV .mul S (.int (Qr.at' cur (Qr.fp u))) (.int 1)) S).wp Q else (opt (binV .mul S (.int (Qr.at' cur (Qr.fp u))) (.int (-1))) S).wp Q) = Q (.int (Qr.at' cur (Qr.fp u) * Qr.sg (Qr.at' u (Qr.fp u)))) S := by
          intro S Q
          have b3 : Bd 1 (1 : Int) := by unfold Bd; decide
          have b4 : Bd 1 (-1 : Int) := by unfold Bd; decide
          unfold Qr.sg
          by_cases h : 0 < Qr.at' u (Qr.fp u)
          · rw [if_pos (decide_eq_true h), if_pos h, mul_bd b2 b3 (by omega), opt_some]
          · rw [if_neg (by simpa using h), if_neg h, mul_bd b2 b4 (by omega), opt_some]
        (try simp only [exs_nil, q_asg, kR_eq, q_drop, kD_eq, q_ret, q_if, kI_t, kI_f, q_set, kS_eq, q_pass, q_brk, q_cont, q_for, kF_eq, List.cons_append, List.nil_append, w_var, t_var, w_int, w_str, w_bl, w_non, w_gl, w_bin, w_neg, t_cmp, w_cmp, t_chain, w_chain, t_isC, w_isC, w_isi, t_isi, t_bop1, t_bop, w_bop1, w_bop, t_nt, w_nt, w_ite, t_ite, w_nil, w_cons, a_tup, w_fz, w_mu, a_disp, a_comp, w_ofSeq, w_call, w_prim, w_ix, w_sl, w_rev, w_pop, w_popAt, w_app, e_nop, e_int, e_var, e_bin, i_seq, a_rng, rngA_int, a_rng2, rngB_int, a_zip, zipA_some, a_enum, enA_some, src_tsI, src_lsI, t_call, t_prim, tru_bl, opt_some, t_nop, List.getElem?_cons_zero, List.getElem?_cons_succ, setTg, setTgs, List.set_cons_zero, List.set_cons_succ, wp_ok, wipeE, len0, len1, len2, len3, len4, len5, len6, len7, len8, len9, len10, if_true, if_false, Bool.false_eq_true, eq_int, ne_int, gt_int, lt_int', le_int', ge_int', add_int, sub_int, abs_int, int_int, Option.map_some, src_lst, src_tup, ix_t0, ix_t1, ix_t2, ix_t3, ix_l0, ix_l1, ix_l2, is_non, and_true, true_and, fpT, i1, i2, abs_nat, e1])
        rw [kA_eq]
        have b5 : Bd (Bs b dn.length) ((Qr.at' u (Qr.fp u)).natAbs : Int) := by unfold Bd; rw [Int.natAbs_natCast]; exact b1
        have b6 : Bd (b + dn2.length * (Bs b dn.length + 1) + 1) (Qr.at' cur (Qr.fp u) * Qr.sg (Qr.at' u (Qr.fp u))) := b2.mul Bd.sg
        have l1 : (((cur.zip u).map pr).length ≤ lim) = True := len_map (by rw [List.length_zip]; omega)
        (try simp only [exs_nil, q_asg, kR_eq, q_drop, kD_eq, q_ret, q_if, kI_t, kI_f, q_set, kS_eq, q_pass, q_brk, q_cont, q_for, kF_eq, List.cons_append, List.nil_append, w_var, t_var, w_int, w_str, w_bl, w_non, w_gl, w_bin, w_neg, t_cmp, w_cmp, t_chain, w_chain, t_isC, w_isC, w_isi, t_isi, t_bop1, t_bop, w_bop1, w_bop, t_nt, w_nt, w_ite, t_ite, w_nil, w_cons, a_tup, w_fz, w_mu, a_disp, a_comp, w_ofSeq, w_call, w_prim, w_ix, w_sl, w_rev, w_pop, w_popAt, w_app, e_nop, e_int, e_var, e_bin, i_seq, a_rng, rngA_int, a_rng2, rngB_int, a_zip, zipA_some, a_enum, enA_some, src_tsI, src_lsI, t_call, t_prim, tru_bl, opt_some, t_nop, List.getElem?_cons_zero, List.getElem?_cons_succ, setTg, setTgs, List.set_cons_zero, List.set_cons_succ, wp_ok, wipeE, len0, len1, len2, len3, len4, len5, len6, len7, len8, len9, len10, if_true, if_false, Bool.false_eq_true, eq_int, ne_int, gt_int, lt_int', le_int', ge_int', add_int, sub_int, abs_int, int_int, Option.map_some, src_lst, src_tup, ix_t0, ix_t1, ix_t2, ix_t3, ix_l0, ix_l1, ix_l2, is_non, and_true, true_and, zipT_pr, l1])
        rw [comp_all (fun p : Int × Int => Tv.int (((Qr.at' u (Qr.fp u)).natAbs : Int) * p.1 - (Qr.at' cur (Qr.fp u) * Qr.sg (Qr.at' u (Qr.fp u))) * p.2)) rfl (fun p hp => by
          have m1 : ∀ S, binV .mul S (.int ((Qr.at' u (Qr.fp u)).natAbs : Int)) (.int p.1) = some (.int (((Qr.at' u (Qr.fp u)).natAbs : Int) * p.1)) := fun S => mul_bd b5 (hcb _ (List.of_mem_zip hp).1) (by omega)
          have m2 : ∀ S, binV .mul S (.int (Qr.at' cur (Qr.fp u) * Qr.sg (Qr.at' u (Qr.fp u)))) (.int p.2) = some (.int (Qr.at' cur (Qr.fp u) * Qr.sg (Qr.at' u (Qr.fp u)) * p.2)) := fun S => mul_bd b6 (fb u hu _ (List.of_mem_zip hp).2) (by omega)
          (try simp only [exs_nil, q_asg, kA_eq, kR_eq, q_drop, kD_eq, q_ret, q_if, kI_t, kI_f, q_set, kS_eq, q_pass, q_brk, q_cont, q_for, kF_eq, List.cons_append, List.nil_append, w_var, t_var, w_int, w_str, w_bl, w_non, w_gl, w_bin, w_neg, t_cmp, w_cmp, t_chain, w_chain, t_isC, w_isC, w_isi, t_isi, t_bop1, t_bop, w_bop1, w_bop, t_nt, w_nt, w_ite, t_ite, w_nil, w_cons, a_tup, w_fz, w_mu, a_disp, a_comp, w_ofSeq, w_call, w_prim, w_ix, w_sl, w_rev, w_pop, w_popAt, w_app, e_nop, e_int, e_var, e_bin, i_seq, a_rng, rngA_int, a_rng2, rngB_int, a_zip, zipA_some, a_enum, enA_some, src_tsI, src_lsI, t_call, t_prim, tru_bl, opt_some, t_nop, List.getElem?_cons_zero, List.getElem?_cons_succ, setTg, setTgs, List.set_cons_zero, List.set_cons_succ, wp_ok, wipeE, len0, len1, len2, len3, len4, len5, len6, len7, len8, len9, len10, if_true, if_false, Bool.false_eq_true, eq_int, ne_int, gt_int, lt_int', le_int', ge_int', add_int, sub_int, abs_int, int_int, Option.map_some, src_lst, src_tup, ix_t0, ix_t1, ix_t2, ix_t3, ix_l0, ix_l1, ix_l2, is_non, and_true, true_and, pr, m1, m2]))]
        have e4 : ((cur.zip u).map fun p : Int × Int => Tv.int (((Qr.at' u (Qr.fp u)).natAbs : Int) * p.1 - (Qr.at' cur (Qr.fp u) * Qr.sg (Qr.at' u (Qr.fp u))) * p.2)) = (Qr.step cur u).map Tv.int := by
          rw [← step_law, ← List.map_uncurry_zip_eq_zipWith, List.map_map]
          rfl
        rw [e4]
        (try simp only [exs_nil, q_asg, kA_eq, kR_eq, q_drop, kD_eq, q_ret, q_if, kI_t, kI_f, q_set, kS_eq, q_pass, q_brk, q_cont, q_for, kF_eq, List.cons_append, List.nil_append, w_var, t_var, w_int, w_str, w_bl, w_non, w_gl, w_bin, w_neg, t_cmp, w_cmp, t_chain, w_chain, t_isC, w_isC, w_isi, t_isi, t_bop1, t_bop, w_bop1, w_bop, t_nt, w_nt, w_ite, t_ite, w_nil, w_cons, a_tup, w_fz, w_mu, a_disp, a_comp, w_ofSeq, w_call, w_prim, w_ix, w_sl, w_rev, w_pop, w_popAt, w_app, e_nop, e_int, e_var, e_bin, i_seq, a_rng, rngA_int, a_rng2, rngB_int, a_zip, zipA_some, a_enum, enA_some, src_tsI, src_lsI, t_call, t_prim, tru_bl, opt_some, t_nop, List.getElem?_cons_zero, List.getElem?_cons_succ, setTg, setTgs, List.set_cons_zero, List.set_cons_succ, wp_ok, wipeE, len0, len1, len2, len3, len4, len5, len6, len7, len8, len9, len10, if_true, if_false, Bool.false_eq_true, eq_int, ne_int, gt_int, lt_int', le_int', ge_int', add_int, sub_int, abs_int, int_int, Option.map_some, src_lst, src_tup, ix_t0, ix_t1, ix_t2, ix_t3, ix_l0, ix_l1, ix_l2, is_non, and_true, true_and])
        refine ⟨_, _, _, _, _, _, _, Qr.step cur u, rfl, hc, by rw [Qr.step_len (by omega), hcl], fun x hx => (step_bd hcb (fb u hu) b1 b2 x hx).mono ?_⟩
        rw [List.length_append, List.length_singleton, Nat.add_mul, Nat.one_mul]
        omega
      · rintro env S' ⟨rfl, j4, j5, j6, j7, j8, j9, j10, cur, rfl, hc, hcl, hcb⟩
        have hc : cur = Qr.clear o F := hc
        subst hc
        have c11 := h11 (S ++ [.lst (F.map fpT)]) (Qr.clear o F) _ p3 (by omega) (by omega)
        have ll : (Qr.low (Qr.clear o F)).length = n := by rw [Qr.low_len]; omega
        have ln : ∀ S, primV .len S [tsI (Qr.low (Qr.clear o F))] = some (.int (n : Int)) := fun S => by
          show some (Tv.int (((Qr.low (Qr.clear o F)).map Tv.int).length : Int)) = _
          rw [List.length_map, ll]
        (try simp only [exs_nil, q_asg, kA_eq, kR_eq, q_drop, kD_eq, q_ret, q_if, kI_t, kI_f, q_set, kS_eq, q_pass, q_brk, q_cont, q_for, kF_eq, List.cons_append, List.nil_append, w_var, t_var, w_int, w_str, w_bl, w_non, w_gl, w_bin, w_neg, t_cmp, w_cmp, t_chain, w_chain, t_isC, w_isC, w_isi, t_isi, t_bop1, t_bop, w_bop1, w_bop, t_nt, w_nt, w_ite, t_ite, w_nil, w_cons, a_tup, w_fz, w_mu, a_disp, a_comp, w_ofSeq, w_call, w_prim, w_ix, w_sl, w_rev, w_pop, w_popAt, w_app, e_nop, e_int, e_var, e_bin, i_seq, a_rng, rngA_int, a_rng2, rngB_int, a_zip, zipA_some, a_enum, enA_some, src_tsI, src_lsI, t_call, t_prim, tru_bl, opt_some, t_nop, List.getElem?_cons_zero, List.getElem?_cons_succ, setTg, setTgs, List.set_cons_zero, List.set_cons_succ, wp_ok, wipeE, len0, len1, len2, len3, len4, len5, len6, len7, len8, len9, len10, if_true, if_false, Bool.false_eq_true, eq_int, ne_int, gt_int, lt_int', le_int', ge_int', add_int, sub_int, abs_int, int_int, Option.map_some, src_lst, src_tup, ix_t0, ix_t1, ix_t2, ix_t3, ix_l0, ix_l1, ix_l2, is_non, and_true, true_and, c11, ln])
        refine ⟨by omega, by rw [rngT_len']; simp [lim]; omega, ?_⟩
        have hn2 : ((n : Nat) : Int).toNat = n := by omega
        rw [hn2, rngT_map, comp_on (fun p : Nat => !(Qr.at' (Qr.low (Qr.clear o F)) p == 0)) (fun p : Nat => Tv.int (p : Int)) rfl (fun p hp => by
          have i3 : ∀ S, ixV S (tsI (Qr.low (Qr.clear o F))) (.int p) = some (.int (Qr.at' (Qr.low (Qr.clear o F)) p)) := fun S => ix_at (by rw [ll]; exact List.mem_range.mp hp)
          (try simp only [exs_nil, q_asg, kA_eq, kR_eq, q_drop, kD_eq, q_ret, q_if, kI_t, kI_f, q_set, kS_eq, q_pass, q_brk, q_cont, q_for, kF_eq, List.cons_append, List.nil_append, w_var, t_var, w_int, w_str, w_bl, w_non, w_gl, w_bin, w_neg, t_cmp, w_cmp, t_chain, w_chain, t_isC, w_isC, w_isi, t_isi, t_bop1, t_bop, w_bop1, w_bop, t_nt, w_nt, w_ite, t_ite, w_nil, w_cons, a_tup, w_fz, w_mu, a_disp, a_comp, w_ofSeq, w_call, w_prim, w_ix, w_sl, w_rev, w_pop, w_popAt, w_app, e_nop, e_int, e_var, e_bin, i_seq, a_rng, rngA_int, a_rng2, rngB_int, a_zip, zipA_some, a_enum, enA_some, src_tsI, src_lsI, t_call, t_prim, tru_bl, opt_some, t_nop, List.getElem?_cons_zero, List.getElem?_cons_succ, setTg, setTgs, List.set_cons_zero, List.set_cons_succ, wp_ok, wipeE, len0, len1, len2, len3, len4, len5, len6, len7, len8, len9, len10, if_true, if_false, Bool.false_eq_true, eq_int, ne_int, gt_int, lt_int', le_int', ge_int', add_int, sub_int, abs_int, int_int, Option.map_some, src_lst, src_tup, ix_t0, ix_t1, ix_t2, ix_t3, ix_l0, ix_l1, ix_l2, is_non, and_true, true_and, Int.zero_add, i3])
          split <;> trivial)]
        have e5 : ∀ ps : List Nat, (ps.map fun p : Nat => Tv.int (p : Int)) = (ps.map fun p : Nat => (p : Int)).map Tv.int := fun ps => by rw [List.map_map]; rfl
        rw [e5]
        have pl := fp_places (r := Qr.low (Qr.clear o F))
        rw [ll] at pl
        rcases pl with ⟨hz, hp⟩ | ⟨hz, rest, hp⟩
        · rw [hp]
          have nl : ∀ S, cmpV .ne S (.lst ((([] : List Nat).map fun p : Nat => (p : Int)).map Tv.int)) (.lst []) = some false := fun S => ne_lst (ns := [])
          (try simp only [exs_nil, q_asg, kA_eq, kR_eq, q_drop, kD_eq, q_ret, q_if, kI_t, kI_f, q_set, kS_eq, q_pass, q_brk, q_cont, q_for, kF_eq, List.cons_append, List.nil_append, w_var, t_var, w_int, w_str, w_bl, w_non, w_gl, w_bin, w_neg, t_cmp, w_cmp, t_chain, w_chain, t_isC, w_isC, w_isi, t_isi, t_bop1, t_bop, w_bop1, w_bop, t_nt, w_nt, w_ite, t_ite, w_nil, w_cons, a_tup, w_fz, w_mu, a_disp, a_comp, w_ofSeq, w_call, w_prim, w_ix, w_sl, w_rev, w_pop, w_popAt, w_app, e_nop, e_int, e_var, e_bin, i_seq, a_rng, rngA_int, a_rng2, rngB_int, a_zip, zipA_some, a_enum, enA_some, src_tsI, src_lsI, t_call, t_prim, tru_bl, opt_some, t_nop, List.getElem?_cons_zero, List.getElem?_cons_succ, setTg, setTgs, List.set_cons_zero, List.set_cons_succ, wp_ok, wipeE, len0, len1, len2, len3, len4, len5, len6, len7, len8, len9, len10, if_true, if_false, Bool.false_eq_true, eq_int, ne_int, gt_int, lt_int', le_int', ge_int', add_int, sub_int, abs_int, int_int, Option.map_some, src_lst, src_tup, ix_t0, ix_t1, ix_t2, ix_t3, ix_l0, ix_l1, ix_l2, is_non, and_true, true_and, nl])
          have e : Qr.push F o = F := by unfold Qr.push; rw [if_pos hz]
          rw [e] at hF' okp p1 p2
          exact ⟨_, _, _, _, _, _, _, _, _, F, rfl, rfl, hF', okp, by rw [List.length_append, List.length_singleton]; omega, by rw [List.length_append, List.length_singleton]; exact p1⟩
        · rw [hp, List.map_cons, List.map_cons]
          have nl : ∀ S, cmpV .ne S (.lst (Tv.int (Qr.fp (Qr.low (Qr.clear o F)) : Int) :: (rest.map fun p : Nat => (p : Int)).map Tv.int)) (.lst []) = some true := fun S => ne_lst (ns := (Qr.fp (Qr.low (Qr.clear o F)) : Int) :: rest.map fun p : Nat => (p : Int))
          have e : Qr.push F o = F ++ [Qr.low (Qr.clear o F)] := by unfold Qr.push; rw [if_neg (by rw [hz]; decide)]
          (try simp only [exs_nil, q_asg, kA_eq, kR_eq, q_drop, kD_eq, q_ret, q_if, kI_t, kI_f, q_set, kS_eq, q_pass, q_brk, q_cont, q_for, kF_eq, List.cons_append, List.nil_append, w_var, t_var, w_int, w_str, w_bl, w_non, w_gl, w_bin, w_neg, t_cmp, w_cmp, t_chain, w_chain, t_isC, w_isC, w_isi, t_isi, t_bop1, t_bop, w_bop1, w_bop, t_nt, w_nt, w_ite, t_ite, w_nil, w_cons, a_tup, w_fz, w_mu, a_disp, a_comp, w_ofSeq, w_call, w_prim, w_ix, w_sl, w_rev, w_pop, w_popAt, w_app, e_nop, e_int, e_var, e_bin, i_seq, a_rng, rngA_int, a_rng2, rngB_int, a_zip, zipA_some, a_enum, enA_some, src_tsI, src_lsI, t_call, t_prim, tru_bl, opt_some, t_nop, List.getElem?_cons_zero, List.getElem?_cons_succ, setTg, setTgs, List.set_cons_zero, List.set_cons_succ, wp_ok, wipeE, len0, len1, len2, len3, len4, len5, len6, len7, len8, len9, len10, if_true, if_false, Bool.false_eq_true, eq_int, ne_int, gt_int, lt_int', le_int', ge_int', add_int, sub_int, abs_int, int_int, Option.map_some, src_lst, src_tup, ix_t0, ix_t1, ix_t2, ix_t3, ix_l0, ix_l1, ix_l2, is_non, and_true, true_and, nl, need_at (end_at (S := S) (o := .lst (F.map fpT)))])
          rw [show Tv.tup [Tv.int (Qr.fp (Qr.low (Qr.clear o F)) : Int), tsI (Qr.low (Qr.clear o F))] = fpT (Qr.low (Qr.clear o F)) from rfl, app_at (end_at (S := S) (o := .lst (F.map fpT))) (y := fpT (Qr.low (Qr.clear o F))) (by rw [List.length_map]; omega), end_set]
          (try simp only [exs_nil, q_asg, kA_eq, kR_eq, q_drop, kD_eq, q_ret, q_if, kI_t, kI_f, q_set, kS_eq, q_pass, q_brk, q_cont, q_for, kF_eq, List.cons_append, List.nil_append, w_var, t_var, w_int, w_str, w_bl, w_non, w_gl, w_bin, w_neg, t_cmp, w_cmp, t_chain, w_chain, t_isC, w_isC, w_isi, t_isi, t_bop1, t_bop, w_bop1, w_bop, t_nt, w_nt, w_ite, t_ite, w_nil, w_cons, a_tup, w_fz, w_mu, a_disp, a_comp, w_ofSeq, w_call, w_prim, w_ix, w_sl, w_rev, w_pop, w_popAt, w_app, e_nop, e_int, e_var, e_bin, i_seq, a_rng, rngA_int, a_rng2, rngB_int, a_zip, zipA_some, a_enum, enA_some, src_tsI, src_lsI, t_call, t_prim, tru_bl, opt_some, t_nop, List.getElem?_cons_zero, List.getElem?_cons_succ, setTg, setTgs, List.set_cons_zero, List.set_cons_succ, wp_ok, wipeE, len0, len1, len2, len3, len4, len5, len6, len7, len8, len9, len10, if_true, if_false, Bool.false_eq_true, eq_int, ne_int, gt_int, lt_int', le_int', ge_int', add_int, sub_int, abs_int, int_int, Option.map_some, src_lst, src_tup, ix_t0, ix_t1, ix_t2, ix_t3, ix_l0, ix_l1, ix_l2, is_non, and_true, true_and])
          refine ⟨_, _, _, _, _, _, _, _, _, Qr.push F o, rfl, ?_, hF', okp, by rw [List.length_append, List.length_singleton]; omega, by rw [List.length_append, List.length_singleton]; exact p1⟩
          rw [e, List.map_append]
          rfl
    · rintro env S' ⟨j2, j3, j4, j5, j6, j7, j8, j9, j10, F, rfl, rfl, hF, ok, fl, fb⟩
      have l1 : ((F.map fpT).length ≤ lim) = True := len_map (by omega)
      (try simp only [exs_nil, q_asg, kA_eq, kR_eq, q_drop, kD_eq, q_ret, q_if, kI_t, kI_f, q_set, kS_eq, q_pass, q_brk, q_cont, q_for, kF_eq, List.cons_append, List.nil_append, w_var, t_var, w_int, w_str, w_bl, w_non, w_gl, w_bin, w_neg, t_cmp, w_cmp, t_chain, w_chain, t_isC, w_isC, w_isi, t_isi, t_bop1, t_bop, w_bop1, w_bop, t_nt, w_nt, w_ite, t_ite, w_nil, w_cons, a_tup, w_fz, w_mu, a_disp, a_comp, w_ofSeq, w_call, w_prim, w_ix, w_sl, w_rev, w_pop, w_popAt, w_app, e_nop, e_int, e_var, e_bin, i_seq, a_rng, rngA_int, a_rng2, rngB_int, a_zip, zipA_some, a_enum, enA_some, src_tsI, src_lsI, t_call, t_prim, tru_bl, opt_some, t_nop, List.getElem?_cons_zero, List.getElem?_cons_succ, setTg, setTgs, List.set_cons_zero, List.set_cons_succ, wp_ok, wipeE, len0, len1, len2, len3, len4, len5, len6, len7, len8, len9, len10, if_true, if_false, Bool.false_eq_true, eq_int, ne_int, gt_int, lt_int', le_int', ge_int', add_int, sub_int, abs_int, int_int, Option.map_some, src_lst, src_tup, ix_t0, ix_t1, ix_t2, ix_t3, ix_l0, ix_l1, ix_l2, is_non, and_true, true_and, src_cell (end_at (S := S) (o := .lst (F.map fpT))), l1])
      rw [comp_all (fun r => tsI r) (stays_cell end_at) (fun p hp => by (try simp only [exs_nil, q_asg, kA_eq, kR_eq, q_drop, kD_eq, q_ret, q_if, kI_t, kI_f, q_set, kS_eq, q_pass, q_brk, q_cont, q_for, kF_eq, List.cons_append, List.nil_append, w_var, t_var, w_int, w_str, w_bl, w_non, w_gl, w_bin, w_neg, t_cmp, w_cmp, t_chain, w_chain, t_isC, w_isC, w_isi, t_isi, t_bop1, t_bop, w_bop1, w_bop, t_nt, w_nt, w_ite, t_ite, w_nil, w_cons, a_tup, w_fz, w_mu, a_disp, a_comp, w_ofSeq, w_call, w_prim, w_ix, w_sl, w_rev, w_pop, w_popAt, w_app, e_nop, e_int, e_var, e_bin, i_seq, a_rng, rngA_int, a_rng2, rngB_int, a_zip, zipA_some, a_enum, enA_some, src_tsI, src_lsI, t_call, t_prim, tru_bl, opt_some, t_nop, List.getElem?_cons_zero, List.getElem?_cons_succ, setTg, setTgs, List.set_cons_zero, List.set_cons_succ, wp_ok, wipeE, len0, len1, len2, len3, len4, len5, len6, len7, len8, len9, len10, if_true, if_false, Bool.false_eq_true, eq_int, ne_int, gt_int, lt_int', le_int', ge_int', add_int, sub_int, abs_int, int_int, Option.map_some, src_lst, src_tup, ix_t0, ix_t1, ix_t2, ix_t3, ix_l0, ix_l1, ix_l2, is_non, and_true, true_and, fpT]))]
      (try simp only [exs_nil, q_asg, kA_eq, kR_eq, q_drop, kD_eq, q_ret, q_if, kI_t, kI_f, q_set, kS_eq, q_pass, q_brk, q_cont, q_for, kF_eq, List.cons_append, List.nil_append, w_var, t_var, w_int, w_str, w_bl, w_non, w_gl, w_bin, w_neg, t_cmp, w_cmp, t_chain, w_chain, t_isC, w_isC, w_isi, t_isi, t_bop1, t_bop, w_bop1, w_bop, t_nt, w_nt, w_ite, t_ite, w_nil, w_cons, a_tup, w_fz, w_mu, a_disp, a_comp, w_ofSeq, w_call, w_prim, w_ix, w_sl, w_rev, w_pop, w_popAt, w_app, e_nop, e_int, e_var, e_bin, i_seq, a_rng, rngA_int, a_rng2, rngB_int, a_zip, zipA_some, a_enum, enA_some, src_tsI, src_lsI, t_call, t_prim, tru_bl, opt_some, t_nop, List.getElem?_cons_zero, List.getElem?_cons_succ, setTg, setTgs, List.set_cons_zero, List.set_cons_succ, wp_ok, wipeE, len0, len1, len2, len3, len4, len5, len6, len7, len8, len9, len10, if_true, if_false, Bool.false_eq_true, eq_int, ne_int, gt_int, lt_int', le_int', ge_int', add_int, sub_int, abs_int, int_int, Option.map_some, src_lst, src_tup, ix_t0, ix_t1, ix_t2, ix_t3, ix_l0, ix_l1, ix_l2, is_non, and_true, true_and, tup_lst, end_take, Tv.noCell, noCells_rows])
      rw [← hF]
      rfl)
  exact e
end Mp
namespace Mp
/-! ### lists of one's own beside the deck -/
theorem Dk.two {b : Nat} {S : Sto} (d : Dk b S) : 2 ≤ S.length := by
  obtain ⟨⟨gs, cs, c, h0, h1, _⟩, hn⟩ := d
  have a := (List.getElem?_eq_some_iff.mp h0).1
  omega
theorem Dk.set {b n : Nat} {S : Sto} {o : Ob} (d : Dk b S) (h : 2 ≤ n) : Dk b (S.set n o) := by
  obtain ⟨⟨gs, cs, c, h0, h1, h2⟩, hn⟩ := d
  exact ⟨⟨gs, cs, c, by rw [set_ne (by omega)]; exact h0, by rw [set_ne (by omega)]; exact h1, h2⟩, hn⟩
theorem Dk.app {b : Nat} {S : Sto} {o : Ob} (d : Dk b S) : Dk b (S ++ [o]) := by
  have h := d.two
  obtain ⟨⟨gs, cs, c, h0, h1, h2⟩, hn⟩ := d
  exact ⟨⟨gs, cs, c, by rw [List.getElem?_append_left (by omega)]; exact h0, by rw [List.getElem?_append_left (by omega)]; exact h1, h2⟩, hn⟩
theorem Grow.app {S : Sto} {o : Ob} : Grow S (S ++ [o]) := ⟨by simp, fun n _ _ h => List.getElem?_append_left h⟩
theorem Grow.set {S S' : Sto} {n : Nat} {o : Ob} (g : Grow S S') (h : S.length ≤ n) : Grow S (S'.set n o) :=
  ⟨by rw [List.length_set]; exact g.le, fun m h1 h0 hm => by rw [set_ne (by omega)]; exact g.at' m h1 h0 hm⟩
/-- a list of one's own stands through draws -/
theorem Grow.own {S S' : Sto} {n : Nat} {o : Ob} (g : Grow S S') (h : S[n]? = some o) (h2 : 2 ≤ n) : S'[n]? = some o := by
  rw [g.at' n (by omega) (by omega) (List.getElem?_eq_some_iff.mp h).1]
  exact h
theorem pick_cell {cf cf' cf'' : Nat → List Tv → M Tv} {i k : Nat} (hc : cf i = runD cf' (xPick k)) (hk : cf' k = runD cf'' xDraw) {S : Sto} {b n : Nat} {ts : List Tv} (h : Dk b S) (hb : b < 1000000) (hn : S[n]? = some (.lst ts)) (hn2 : 2 ≤ n) (h0 : ts ≠ []) (hl : ts.length ≤ 1000) {Q : Tv → Sto → Prop}
    (q : ∀ t S', t ∈ ts → Dk (b + 1) S' → Grow S S' → Q t S') : (cf i [.cell 1, .cell n] S).wp Q := by
  rw [hc]
  have hp : 0 < ts.length := List.length_pos_iff.mpr h0
  have z : (runD cf' (xPick k) [.cell 1, .cell n] S).wp fun t S' => t ∈ ts ∧ Dk (b + 1) S' ∧ Grow S S' := by
    refine run_draw rfl h (Nat.le_succ b) ?_
    show (exs cf' Fu (xPick k).body [some (.cell 1), some (.cell n)] S).wp _
    unfold xPick
    have e1 : primV .len S [.cell n] = some (.int ts.length) := by simp only [primV, lenV, seqOf, hn, Option.map_some]
    (try simp only [exs_nil, q_asg, kA_eq, kR_eq, q_drop, kD_eq, q_ret, q_if, kI_t, kI_f, q_set, kS_eq, q_pass, q_brk, q_cont, q_for, kF_eq, List.cons_append, List.nil_append, w_var, t_var, w_int, w_str, w_bl, w_non, w_gl, w_bin, w_neg, t_cmp, w_cmp, t_chain, w_chain, t_isC, w_isC, w_isi, t_isi, t_bop1, t_bop, w_bop1, w_bop, t_nt, w_nt, w_ite, t_ite, w_nil, w_cons, a_tup, w_fz, w_mu, a_disp, a_comp, w_ofSeq, w_call, w_prim, w_ix, w_sl, w_rev, w_pop, w_popAt, w_app, e_nop, e_int, e_var, e_bin, i_seq, a_rng, rngA_int, a_rng2, rngB_int, a_zip, zipA_some, a_enum, enA_some, src_tsI, src_lsI, t_call, t_prim, tru_bl, opt_some, t_nop, List.getElem?_cons_zero, List.getElem?_cons_succ, setTg, setTgs, List.set_cons_zero, List.set_cons_succ, wp_ok, wipeE, len0, len1, len2, len3, len4, len5, len6, len7, len8, len9, len10, if_true, if_false, Bool.false_eq_true, eq_int, ne_int, gt_int, lt_int', le_int', ge_int', add_int, sub_int, abs_int, int_int, Option.map_some, src_lst, src_tup, ix_t0, ix_t1, ix_t2, ix_t3, ix_l0, ix_l1, ix_l2, is_non, and_true, true_and, e1])
    refine draw_wp hk h hb (by omega) (by omega) fun v S' v0 v1 d g => ?_
    obtain ⟨j, rfl⟩ := Int.eq_ofNat_of_zero_le v0
    have e2 : ixV S' (.cell n) (.int (j : Nat)) = some ts[j] := by
      rw [ix_lst (g.own hn hn2)]
      exact L2.atI_nat (List.getElem?_eq_getElem (by omega))
    (try simp only [exs_nil, q_asg, kA_eq, kR_eq, q_drop, kD_eq, q_ret, q_if, kI_t, kI_f, q_set, kS_eq, q_pass, q_brk, q_cont, q_for, kF_eq, List.cons_append, List.nil_append, w_var, t_var, w_int, w_str, w_bl, w_non, w_gl, w_bin, w_neg, t_cmp, w_cmp, t_chain, w_chain, t_isC, w_isC, w_isi, t_isi, t_bop1, t_bop, w_bop1, w_bop, t_nt, w_nt, w_ite, t_ite, w_nil, w_cons, a_tup, w_fz, w_mu, a_disp, a_comp, w_ofSeq, w_call, w_prim, w_ix, w_sl, w_rev, w_pop, w_popAt, w_app, e_nop, e_int, e_var, e_bin, i_seq, a_rng, rngA_int, a_rng2, rngB_int, a_zip, zipA_some, a_enum, enA_some, src_tsI, src_lsI, t_call, t_prim, tru_bl, opt_some, t_nop, List.getElem?_cons_zero, List.getElem?_cons_succ, setTg, setTgs, List.set_cons_zero, List.set_cons_succ, wp_ok, wipeE, len0, len1, len2, len3, len4, len5, len6, len7, len8, len9, len10, if_true, if_false, Bool.false_eq_true, eq_int, ne_int, gt_int, lt_int', le_int', ge_int', add_int, sub_int, abs_int, int_int, Option.map_some, src_lst, src_tup, ix_t0, ix_t1, ix_t2, ix_t3, ix_l0, ix_l1, ix_l2, is_non, and_true, true_and, e2])
    exact ⟨List.getElem_mem (by omega), d, g⟩
  exact wp_mono z fun t S' ⟨h1, h2, h3⟩ => q t S' h1 h2 h3
theorem ne_cell {S : Sto} {n : Nat} {R : List (List Int)} (h : S[n]? = some (.lst (R.map tsI))) (hl : R.length ≤ 1000) : cmpV .ne S (.cell n) (.lst []) = some (!R.isEmpty) := by
  have dk : ∀ R : List (List Int), Tv.dOks 15 (R.map tsI) = true := fun R => by
    induction R with
    | nil => rfl
    | cons r R ih => rw [List.map_cons, Tv.dOks, ih, tsI, Tv.dOk, dOks_ints]; rfl
  have d := dk R
  cases R with
  | nil => simp [cmpV, eqS, eqS0, thaw, h, Tv.dOk, Tv.dOks, Tv.eqb, Tv.eqbs]
  | cons r R =>
    simp only [List.map_cons] at d h
    simp [cmpV, eqS, eqS0, thaw, h, Tv.dOk, Tv.dOks, Tv.eqb, Tv.eqbs, tsI]
    have := (by simpa [Tv.dOks] using d : Tv.dOk 15 (tsI r) = true ∧ Tv.dOks 15 (R.map tsI) = true)
    exact ⟨dOks_ints 14 r, this.2⟩
/-- drawn rows -/
def xLawRows : Df := ⟨11, 2,
  [
    .asg (.v 2) (.mu (.disp [])),
    .forS (.v 3) (.rng (.call 7 [(.var 0), (.int 5)]))
      [
        .asg (.v 4) (.call 8 [(.var 0), (.fz (.disp [(.int 2), (.int 5), (.int 21), (.bin .pow (.int 10) (.int 12))]))]),
        .asg (.v 5) (.fz (.comp [7] (.bin .sub (.call 7 [(.var 0), (.bin .mul (.int 2) (.var 4))]) (.var 4)) (.v 7) (.rng (.var 1)) .nop)),
        .ifS (.bop true [(.cmp .ne (.var 2) (.fz (.disp []))), (.cmp .eq (.call 7 [(.var 0), (.int 3)]) (.int 0))])
          [
            .asg (.v 6) (.bin .sub (.call 7 [(.var 0), (.int 7)]) (.int 3)),
            .asg (.v 5) (.fz (.comp [8] (.bin .mul (.var 6) (.var 8)) (.v 8) (.seq (.call 8 [(.var 0), (.var 2)])) .nop))]
          [],
        .ifS (.bop true [(.cmp .ne (.var 2) (.fz (.disp []))), (.cmp .eq (.call 7 [(.var 0), (.int 4)]) (.int 0))])
          [
            .asg (.v 5) (.fz (.comp [9, 10] (.bin .add (.var 9) (.var 10)) (.tup [(.v 9), (.v 10)]) (.zip (.var 5) (.call 8 [(.var 0), (.var 2)])) .nop))]
          [],
        .drop (.app (.var 2) (.prim .tuple [(.var 5)]))],
    .ret (.prim .tuple [(.var 2)])]⟩
def RowsV (m n k : Nat) (t : Tv) : Prop := ∃ rs : List (List Int), t = .tup (rs.map tsI) ∧ rs.length ≤ m ∧ ∀ r ∈ rs, r.length = n ∧ ∀ x ∈ r, Bd k x
theorem pow12 {S : Sto} : binV .pow S (.int 10) (.int 12) = some (.int 1000000000000) := rfl
theorem bd_small {x : Int} {k : Nat} (h : x.natAbs ≤ 1000000000000) (hk : 40 ≤ k) : Bd k x := by
  have : Bd 40 x := Bd.of h (by decide)
  exact this.mono hk
theorem comp_ints {ys : List Tv} {n : Nat} {ts : List Tv} {P : Int → Prop} (hl : ys.length = ts.length) (hn : ts.length = n) (h : ∀ p ∈ ts.zip ys, ∃ i, p.2 = Tv.int i ∧ P i) : ∃ ns : List Int, ys = ns.map Tv.int ∧ ns.length = n ∧ ∀ x ∈ ns, P x := by
  obtain ⟨ns, e, hp⟩ := ints_in (P := P) (zip_right hl h)
  refine ⟨ns, e, ?_, hp⟩
  rw [e, List.length_map] at hl
  omega
theorem lawRows_ok {cf c1 c2 c3 : Nat → List Tv → M Tv} (h7 : cf 7 = runD c1 xDraw) (h8 : cf 8 = runD c2 (xPick 7)) (h87 : c2 7 = runD c3 xDraw) {S : Sto} {b n : Nat} (d : Dk b S) (hn : n ≤ 100) (hb : b + 1000 ≤ 900000) :
    (runD cf xLawRows [.cell 1, .int n] S).wp fun t S' => RowsV 4 n 52 t ∧ Dk (b + 1000) S' ∧ Grow S S' := by
  refine run_draw rfl d (by omega) ?_
  show (exs cf Fu xLawRows.body [some (.cell 1), some (.int n), none, none, none, none, none, none, none, none, none] S).wp _
  unfold xLawRows
  (try simp only [exs_nil, q_asg, kA_eq, kR_eq, q_drop, kD_eq, q_ret, q_if, kI_t, kI_f, q_set, kS_eq, q_pass, q_brk, q_cont, q_for, kF_eq, List.cons_append, List.nil_append, w_var, t_var, w_int, w_str, w_bl, w_non, w_gl, w_bin, w_neg, t_cmp, w_cmp, t_chain, w_chain, t_isC, w_isC, w_isi, t_isi, t_bop1, t_bop, w_bop1, w_bop, t_nt, w_nt, w_ite, t_ite, w_nil, w_cons, a_tup, w_fz, w_mu, a_disp, a_comp, w_ofSeq, w_call, w_prim, w_ix, w_sl, w_rev, w_pop, w_popAt, w_app, e_nop, e_int, e_var, e_bin, i_seq, a_rng, rngA_int, a_rng2, rngB_int, a_zip, zipA_some, a_enum, enA_some, src_tsI, src_lsI, t_call, t_prim, tru_bl, opt_some, t_nop, List.getElem?_cons_zero, List.getElem?_cons_succ, setTg, setTgs, List.set_cons_zero, List.set_cons_succ, wp_ok, wipeE, len0, len1, len2, len3, len4, len5, len6, len7, len8, len9, len10, if_true, if_false, Bool.false_eq_true, eq_int, ne_int, gt_int, lt_int', le_int', ge_int', add_int, sub_int, abs_int, int_int, Option.map_some, src_lst, src_tup, ix_t0, ix_t1, ix_t2, ix_t3, ix_l0, ix_l1, ix_l2, is_non, and_true, true_and])
  refine draw_wp h7 d.app (by omega) (by decide) (by decide) fun v S1 v0 v1 d1 g1 => ?_
  have hL := d.two
  have o1 : S1[S.length]? = some (.lst []) := g1.own end_at hL
  have gg1 : Grow S S1 := Grow.app.trans g1
  obtain ⟨m, rfl⟩ := Int.eq_ofNat_of_zero_le v0
  (try simp only [exs_nil, q_asg, kA_eq, kR_eq, q_drop, kD_eq, q_ret, q_if, kI_t, kI_f, q_set, kS_eq, q_pass, q_brk, q_cont, q_for, kF_eq, List.cons_append, List.nil_append, w_var, t_var, w_int, w_str, w_bl, w_non, w_gl, w_bin, w_neg, t_cmp, w_cmp, t_chain, w_chain, t_isC, w_isC, w_isi, t_isi, t_bop1, t_bop, w_bop1, w_bop, t_nt, w_nt, w_ite, t_ite, w_nil, w_cons, a_tup, w_fz, w_mu, a_disp, a_comp, w_ofSeq, w_call, w_prim, w_ix, w_sl, w_rev, w_pop, w_popAt, w_app, e_nop, e_int, e_var, e_bin, i_seq, a_rng, rngA_int, a_rng2, rngB_int, a_zip, zipA_some, a_enum, enA_some, src_tsI, src_lsI, t_call, t_prim, tru_bl, opt_some, t_nop, List.getElem?_cons_zero, List.getElem?_cons_succ, setTg, setTgs, List.set_cons_zero, List.set_cons_succ, wp_ok, wipeE, len0, len1, len2, len3, len4, len5, len6, len7, len8, len9, len10, if_true, if_false, Bool.false_eq_true, eq_int, ne_int, gt_int, lt_int', le_int', ge_int', add_int, sub_int, abs_int, int_int, Option.map_some, src_lst, src_tup, ix_t0, ix_t1, ix_t2, ix_t3, ix_l0, ix_l1, ix_l2, is_non, and_true, true_and])
  refine ⟨by omega, ?_⟩
  have hm2 : ((m : Nat) : Int).toNat = m := by omega
  rw [hm2, rngT_map]
  refine for_on (fun dn r env S' => (dn.length + r.length = m) ∧ Dk (b + 1 + 220 * dn.length) S' ∧ Grow S S' ∧ ∃ j3 j4 j5 j6 j7 j8 j9 j10 : Option Tv, ∃ F : List (List Int), env = [some (.cell 1), some (.int n), some (.cell S.length), j3, j4, j5, j6, j7, j8, j9, j10] ∧ S'[S.length]? = some (.lst (F.map tsI)) ∧ F.length = dn.length ∧ ∀ o ∈ F, o.length = n ∧ ∀ x ∈ o, Bd (40 + 3 * dn.length) x) (fun _ _ _ _ _ => rfl) ?_ ?_ ⟨by simp, by simpa using d1, gg1, _, _, _, _, _, _, _, _, [], rfl, o1, rfl, fun o h => (List.not_mem_nil h).elim⟩
  · rintro dn i r env S' hx ⟨hlen, d', g', j3, j4, j5, j6, j7, j8, j9, j10, F, rfl, oF, lF, bF⟩
    rw [List.length_cons] at hlen
    have fin : ∀ (D : Po) (own : List Int) (b' : Nat) (S'' : Sto) (j3 j4 j6 j7 j8 j9 j10 : Option Tv), own.length = n → (∀ x ∈ own, Bd (40 + 3 * (dn.length + 1)) x) → b' ≤ b + 1 + 220 * dn.length + 219 → Dk b' S'' → Grow S S'' → S''[S.length]? = some (.lst (F.map tsI)) →
        (∀ (env : Env) (S' : Sto), ((dn ++ [i]).length + r.length = m ∧ Dk (b + 1 + 220 * (dn ++ [i]).length) S' ∧ Grow S S' ∧ ∃ j3 j4 j5 j6 j7 j8 j9 j10 : Option Tv, ∃ F : List (List Int), env = [some (.cell 1), some (.int n), some (.cell S.length), j3, j4, j5, j6, j7, j8, j9, j10] ∧ S'[S.length]? = some (.lst (F.map tsI)) ∧ F.length = (dn ++ [i]).length ∧ ∀ o ∈ F, o.length = n ∧ ∀ x ∈ o, Bd (40 + 3 * (dn ++ [i]).length) x) → D.nx env S') →
        (exs cf Fu [.drop (.app (.var 2) (.prim .tuple [(.var 5)]))] [some (.cell 1), some (.int n), some (.cell S.length), j3, j4, some (lsI own), j6, j7, j8, j9, j10] S'').wp D := by
      intro D own b' S'' j3 j4 j6 j7 j8 j9 j10 ol ob hb' d'' g'' oo hD
      have tp : ∀ S, primV .tuple S [lsI own] = some (tsI own) := fun S => rfl
      (try simp only [exs_nil, q_asg, kA_eq, kR_eq, q_drop, kD_eq, q_ret, q_if, kI_t, kI_f, q_set, kS_eq, q_pass, q_brk, q_cont, q_for, kF_eq, List.cons_append, List.nil_append, w_var, t_var, w_int, w_str, w_bl, w_non, w_gl, w_bin, w_neg, t_cmp, w_cmp, t_chain, w_chain, t_isC, w_isC, w_isi, t_isi, t_bop1, t_bop, w_bop1, w_bop, t_nt, w_nt, w_ite, t_ite, w_nil, w_cons, a_tup, w_fz, w_mu, a_disp, a_comp, w_ofSeq, w_call, w_prim, w_ix, w_sl, w_rev, w_pop, w_popAt, w_app, e_nop, e_int, e_var, e_bin, i_seq, a_rng, rngA_int, a_rng2, rngB_int, a_zip, zipA_some, a_enum, enA_some, src_tsI, src_lsI, t_call, t_prim, tru_bl, opt_some, t_nop, List.getElem?_cons_zero, List.getElem?_cons_succ, setTg, setTgs, List.set_cons_zero, List.set_cons_succ, wp_ok, wipeE, len0, len1, len2, len3, len4, len5, len6, len7, len8, len9, len10, if_true, if_false, Bool.false_eq_true, eq_int, ne_int, gt_int, lt_int', le_int', ge_int', add_int, sub_int, abs_int, int_int, Option.map_some, src_lst, src_tup, ix_t0, ix_t1, ix_t2, ix_t3, ix_l0, ix_l1, ix_l2, is_non, and_true, true_and, need_at oo, tp, app_at oo (y := tsI own) (by rw [List.length_map]; omega)])
      have e : (dn ++ [i]).length = dn.length + 1 := by rw [List.length_append, List.length_singleton]
      have d2 : Dk (b + 1 + 220 * (dn.length + 1)) (S''.set S.length (.lst (F.map tsI ++ [tsI own]))) := (d''.set hL).mono (by omega)
      refine hD _ _ ?_
      rw [e]
      refine ⟨by omega, d2, g''.set (Nat.le_refl _), _, _, _, _, _, _, _, _, F ++ [own], rfl, ?_, by rw [List.length_append, List.length_singleton]; omega, fun o ho => ?_⟩
      · rw [set_at oo, List.map_append]
        rfl
      · rcases List.mem_append.mp ho with k | k
        · exact ⟨(bF o k).1, fun x hx => ((bF o k).2 x hx).mono (by omega)⟩
        · rw [List.mem_singleton.mp k]
          exact ⟨ol, ob⟩
    (try simp only [List.cons_append, List.nil_append, w_var, t_var, w_int, w_str, w_bl, w_non, w_gl, w_bin, w_neg, t_cmp, w_cmp, t_chain, w_chain, t_isC, w_isC, w_isi, t_isi, t_bop1, t_bop, w_bop1, w_bop, t_nt, w_nt, w_ite, t_ite, w_nil, w_cons, a_tup, w_fz, w_mu, a_disp, a_comp, w_ofSeq, w_call, w_prim, w_ix, w_sl, w_rev, w_pop, w_popAt, w_app, e_nop, e_int, e_var, e_bin, i_seq, a_rng, rngA_int, a_rng2, rngB_int, a_zip, zipA_some, a_enum, enA_some, src_tsI, src_lsI, t_call, t_prim, tru_bl, opt_some, t_nop, List.getElem?_cons_zero, List.getElem?_cons_succ, setTg, setTgs, List.set_cons_zero, List.set_cons_succ, wp_ok, wipeE, len0, len1, len2, len3, len4, len5, len6, len7, len8, len9, len10, if_true, if_false, Bool.false_eq_true, eq_int, ne_int, gt_int, lt_int', le_int', ge_int', add_int, sub_int, abs_int, int_int, Option.map_some, src_lst, src_tup, ix_t0, ix_t1, ix_t2, ix_t3, ix_l0, ix_l1, ix_l2, is_non, and_true, true_and])
    rw [q_asg]
    (try simp only [List.cons_append, List.nil_append, w_var, t_var, w_int, w_str, w_bl, w_non, w_gl, w_bin, w_neg, t_cmp, w_cmp, t_chain, w_chain, t_isC, w_isC, w_isi, t_isi, t_bop1, t_bop, w_bop1, w_bop, t_nt, w_nt, w_ite, t_ite, w_nil, w_cons, a_tup, w_fz, w_mu, a_disp, a_comp, w_ofSeq, w_call, w_prim, w_ix, w_sl, w_rev, w_pop, w_popAt, w_app, e_nop, e_int, e_var, e_bin, i_seq, a_rng, rngA_int, a_rng2, rngB_int, a_zip, zipA_some, a_enum, enA_some, src_tsI, src_lsI, t_call, t_prim, tru_bl, opt_some, t_nop, List.getElem?_cons_zero, List.getElem?_cons_succ, setTg, setTgs, List.set_cons_zero, List.set_cons_succ, wp_ok, wipeE, len0, len1, len2, len3, len4, len5, len6, len7, len8, len9, len10, if_true, if_false, Bool.false_eq_true, eq_int, ne_int, gt_int, lt_int', le_int', ge_int', add_int, sub_int, abs_int, int_int, Option.map_some, src_lst, src_tup, ix_t0, ix_t1, ix_t2, ix_t3, ix_l0, ix_l1, ix_l2, is_non, and_true, true_and, pow12])
    refine pick_wp h8 h87 d' (by omega) (by simp) (by simp) fun u S2 hu d2 g2 => ?_
    have hmost : ∃ q : Int, u = .int q ∧ 2 ≤ q ∧ q ≤ 1000000000000 := by
      simp only [List.mem_cons, List.not_mem_nil, or_false] at hu
      rcases hu with rfl | rfl | rfl | rfl <;> exact ⟨_, rfl, by decide, by decide⟩
    obtain ⟨q, rfl, q0, q1⟩ := hmost
    have o2 := g2.own oF hL
    rw [kA_eq]
    (try simp only [List.cons_append, List.nil_append, w_var, t_var, w_int, w_str, w_bl, w_non, w_gl, w_bin, w_neg, t_cmp, w_cmp, t_chain, w_chain, t_isC, w_isC, w_isi, t_isi, t_bop1, t_bop, w_bop1, w_bop, t_nt, w_nt, w_ite, t_ite, w_nil, w_cons, a_tup, w_fz, w_mu, a_disp, a_comp, w_ofSeq, w_call, w_prim, w_ix, w_sl, w_rev, w_pop, w_popAt, w_app, e_nop, e_int, e_var, e_bin, i_seq, a_rng, rngA_int, a_rng2, rngB_int, a_zip, zipA_some, a_enum, enA_some, src_tsI, src_lsI, t_call, t_prim, tru_bl, opt_some, t_nop, List.getElem?_cons_zero, List.getElem?_cons_succ, setTg, setTgs, List.set_cons_zero, List.set_cons_succ, wp_ok, wipeE, len0, len1, len2, len3, len4, len5, len6, len7, len8, len9, len10, if_true, if_false, Bool.false_eq_true, eq_int, ne_int, gt_int, lt_int', le_int', ge_int', add_int, sub_int, abs_int, int_int, Option.map_some, src_lst, src_tup, ix_t0, ix_t1, ix_t2, ix_t3, ix_l0, ix_l1, ix_l2, is_non, and_true, true_and])
    rw [q_asg]
    (try simp only [List.cons_append, List.nil_append, w_var, t_var, w_int, w_str, w_bl, w_non, w_gl, w_bin, w_neg, t_cmp, w_cmp, t_chain, w_chain, t_isC, w_isC, w_isi, t_isi, t_bop1, t_bop, w_bop1, w_bop, t_nt, w_nt, w_ite, t_ite, w_nil, w_cons, a_tup, w_fz, w_mu, a_disp, a_comp, w_ofSeq, w_call, w_prim, w_ix, w_sl, w_rev, w_pop, w_popAt, w_app, e_nop, e_int, e_var, e_bin, i_seq, a_rng, rngA_int, a_rng2, rngB_int, a_zip, zipA_some, a_enum, enA_some, src_tsI, src_lsI, t_call, t_prim, tru_bl, opt_some, t_nop, List.getElem?_cons_zero, List.getElem?_cons_succ, setTg, setTgs, List.set_cons_zero, List.set_cons_succ, wp_ok, wipeE, len0, len1, len2, len3, len4, len5, len6, len7, len8, len9, len10, if_true, if_false, Bool.false_eq_true, eq_int, ne_int, gt_int, lt_int', le_int', ge_int', add_int, sub_int, abs_int, int_int, Option.map_some, src_lst, src_tup, ix_t0, ix_t1, ix_t2, ix_t3, ix_l0, ix_l1, ix_l2, is_non, and_true, true_and])
    refine ⟨by omega, by rw [rngT_len']; simp [lim]; omega, ?_⟩
    have hn2 : ((n : Nat) : Int).toNat = n := by omega
    rw [hn2]
    have mq : ∀ S, binV .mul S (.int 2) (.int q) = some (.int (2 * q)) := fun S => mul_bd (k := 2) (l := 40) (by unfold Bd; decide) (bd_small (by omega) (by omega)) (by omega)
    refine comp_drawn (b := b + 1 + 220 * dn.length + 1) (k := 1) (fun _ y => ∃ i, y = Tv.int i ∧ i.natAbs ≤ 1000000000000) (by rw [rngT_len']; omega) d2 ?_ ?_
    · intro t ht b' S3 hb' d3 g3
      (try simp only [exs_nil, q_asg, kA_eq, kR_eq, q_drop, kD_eq, q_ret, q_if, kI_t, kI_f, q_set, kS_eq, q_pass, q_brk, q_cont, q_for, kF_eq, List.cons_append, List.nil_append, w_var, t_var, w_int, w_str, w_bl, w_non, w_gl, w_bin, w_neg, t_cmp, w_cmp, t_chain, w_chain, t_isC, w_isC, w_isi, t_isi, t_bop1, t_bop, w_bop1, w_bop, t_nt, w_nt, w_ite, t_ite, w_nil, w_cons, a_tup, w_fz, w_mu, a_disp, a_comp, w_ofSeq, w_call, w_prim, w_ix, w_sl, w_rev, w_pop, w_popAt, w_app, e_nop, e_int, e_var, e_bin, i_seq, a_rng, rngA_int, a_rng2, rngB_int, a_zip, zipA_some, a_enum, enA_some, src_tsI, src_lsI, t_call, t_prim, tru_bl, opt_some, t_nop, List.getElem?_cons_zero, List.getElem?_cons_succ, setTg, setTgs, List.set_cons_zero, List.set_cons_succ, wp_ok, wipeE, len0, len1, len2, len3, len4, len5, len6, len7, len8, len9, len10, if_true, if_false, Bool.false_eq_true, eq_int, ne_int, gt_int, lt_int', le_int', ge_int', add_int, sub_int, abs_int, int_int, Option.map_some, src_lst, src_tup, ix_t0, ix_t1, ix_t2, ix_t3, ix_l0, ix_l1, ix_l2, is_non, and_true, true_and, mq])
      refine draw_wp h7 d3 (by omega) (by omega) (by omega) fun w S4 w0 w1 d4 g4 => ?_
      (try simp only [exs_nil, q_asg, kA_eq, kR_eq, q_drop, kD_eq, q_ret, q_if, kI_t, kI_f, q_set, kS_eq, q_pass, q_brk, q_cont, q_for, kF_eq, List.cons_append, List.nil_append, w_var, t_var, w_int, w_str, w_bl, w_non, w_gl, w_bin, w_neg, t_cmp, w_cmp, t_chain, w_chain, t_isC, w_isC, w_isi, t_isi, t_bop1, t_bop, w_bop1, w_bop, t_nt, w_nt, w_ite, t_ite, w_nil, w_cons, a_tup, w_fz, w_mu, a_disp, a_comp, w_ofSeq, w_call, w_prim, w_ix, w_sl, w_rev, w_pop, w_popAt, w_app, e_nop, e_int, e_var, e_bin, i_seq, a_rng, rngA_int, a_rng2, rngB_int, a_zip, zipA_some, a_enum, enA_some, src_tsI, src_lsI, t_call, t_prim, tru_bl, opt_some, t_nop, List.getElem?_cons_zero, List.getElem?_cons_succ, setTg, setTgs, List.set_cons_zero, List.set_cons_succ, wp_ok, wipeE, len0, len1, len2, len3, len4, len5, len6, len7, len8, len9, len10, if_true, if_false, Bool.false_eq_true, eq_int, ne_int, gt_int, lt_int', le_int', ge_int', add_int, sub_int, abs_int, int_int, Option.map_some, src_lst, src_tup, ix_t0, ix_t1, ix_t2, ix_t3, ix_l0, ix_l1, ix_l2, is_non, and_true, true_and])
      exact ⟨⟨_, rfl, by omega⟩, d4, g4⟩
    · intro ys S3 hyl hyV d3 g3
      obtain ⟨own, rfl, ol, ob⟩ := comp_ints (n := n) hyl rngT_len' hyV
      rw [rngT_len', Nat.one_mul] at d3
      have o3 := g3.own o2 hL
      have gS3 : Grow S S3 := g'.trans (g2.trans g3)
      have obd : ∀ x ∈ own, Bd (40 + 3 * dn.length) x := fun x hx => bd_small (ob x hx) (by omega)
      -- the second way: a sum with an earlier row
      have second : ∀ (D : Po) (own : List Int) (b' : Nat) (S'' : Sto) (j3 j4 j6 j7 j8 j9 j10 : Option Tv), own.length = n → (∀ x ∈ own, Bd (40 + 3 * dn.length + 2) x) → b' ≤ b + 1 + 220 * dn.length + 210 → Dk b' S'' → Grow S S'' → S''[S.length]? = some (.lst (F.map tsI)) →
          (∀ (env : Env) (S' : Sto), ((dn ++ [i]).length + r.length = m ∧ Dk (b + 1 + 220 * (dn ++ [i]).length) S' ∧ Grow S S' ∧ ∃ j3 j4 j5 j6 j7 j8 j9 j10 : Option Tv, ∃ F : List (List Int), env = [some (.cell 1), some (.int n), some (.cell S.length), j3, j4, j5, j6, j7, j8, j9, j10] ∧ S'[S.length]? = some (.lst (F.map tsI)) ∧ F.length = (dn ++ [i]).length ∧ ∀ o ∈ F, o.length = n ∧ ∀ x ∈ o, Bd (40 + 3 * (dn ++ [i]).length) x) → D.nx env S') →
          (exs cf Fu [.ifS (.bop true [(.cmp .ne (.var 2) (.fz (.disp []))), (.cmp .eq (.call 7 [(.var 0), (.int 4)]) (.int 0))])
            [
              .asg (.v 5) (.fz (.comp [9, 10] (.bin .add (.var 9) (.var 10)) (.tup [(.v 9), (.v 10)]) (.zip (.var 5) (.call 8 [(.var 0), (.var 2)])) .nop))]
            [],
            .drop (.app (.var 2) (.prim .tuple [(.var 5)]))] [some (.cell 1), some (.int n), some (.cell S.length), j3, j4, some (lsI own), j6, j7, j8, j9, j10] S'').wp D := by
        intro D own b' S'' j3 j4 j6 j7 j8 j9 j10 ol ob hb' d'' g'' oo hD
        rw [q_if]
        (try simp only [List.cons_append, List.nil_append, w_var, t_var, w_int, w_str, w_bl, w_non, w_gl, w_bin, w_neg, t_cmp, w_cmp, t_chain, w_chain, t_isC, w_isC, w_isi, t_isi, t_bop1, t_bop, w_bop1, w_bop, t_nt, w_nt, w_ite, t_ite, w_nil, w_cons, a_tup, w_fz, w_mu, a_disp, a_comp, w_ofSeq, w_call, w_prim, w_ix, w_sl, w_rev, w_pop, w_popAt, w_app, e_nop, e_int, e_var, e_bin, i_seq, a_rng, rngA_int, a_rng2, rngB_int, a_zip, zipA_some, a_enum, enA_some, src_tsI, src_lsI, t_call, t_prim, tru_bl, opt_some, t_nop, List.getElem?_cons_zero, List.getElem?_cons_succ, setTg, setTgs, List.set_cons_zero, List.set_cons_succ, wp_ok, wipeE, len0, len1, len2, len3, len4, len5, len6, len7, len8, len9, len10, if_true, if_false, Bool.false_eq_true, eq_int, ne_int, gt_int, lt_int', le_int', ge_int', add_int, sub_int, abs_int, int_int, Option.map_some, src_lst, src_tup, ix_t0, ix_t1, ix_t2, ix_t3, ix_l0, ix_l1, ix_l2, is_non, and_true, true_and, ne_cell oo (by omega)])
        have straight : ∀ (b2 : Nat) (S''' : Sto), b2 ≤ b + 1 + 220 * dn.length + 219 → Dk b2 S''' → Grow S S''' → S'''[S.length]? = some (.lst (F.map tsI)) → (exs cf Fu [.drop (.app (.var 2) (.prim .tuple [(.var 5)]))] [some (.cell 1), some (.int n), some (.cell S.length), j3, j4, some (lsI own), j6, j7, j8, j9, j10] S''').wp D := fun b2 S''' hb2 d2 g2 o2 =>
          fin D own b2 S''' j3 j4 j6 j7 j8 j9 j10 ol (fun x hx => (ob x hx).mono (by omega)) hb2 d2 g2 o2 hD
        cases hF : F.isEmpty with
        | true =>
          (try simp only [List.cons_append, List.nil_append, w_var, t_var, w_int, w_str, w_bl, w_non, w_gl, w_bin, w_neg, t_cmp, w_cmp, t_chain, w_chain, t_isC, w_isC, w_isi, t_isi, t_bop1, t_bop, w_bop1, w_bop, t_nt, w_nt, w_ite, t_ite, w_nil, w_cons, a_tup, w_fz, w_mu, a_disp, a_comp, w_ofSeq, w_call, w_prim, w_ix, w_sl, w_rev, w_pop, w_popAt, w_app, e_nop, e_int, e_var, e_bin, i_seq, a_rng, rngA_int, a_rng2, rngB_int, a_zip, zipA_some, a_enum, enA_some, src_tsI, src_lsI, t_call, t_prim, tru_bl, opt_some, t_nop, List.getElem?_cons_zero, List.getElem?_cons_succ, setTg, setTgs, List.set_cons_zero, List.set_cons_succ, wp_ok, wipeE, len0, len1, len2, len3, len4, len5, len6, len7, len8, len9, len10, if_true, if_false, Bool.false_eq_true, eq_int, ne_int, gt_int, lt_int', le_int', ge_int', add_int, sub_int, abs_int, int_int, Option.map_some, src_lst, src_tup, ix_t0, ix_t1, ix_t2, ix_t3, ix_l0, ix_l1, ix_l2, is_non, and_true, true_and, Bool.not_true])
          rw [kI_f, List.nil_append]
          exact straight b' S'' (by omega) d'' g'' oo
        | false =>
          (try simp only [List.cons_append, List.nil_append, w_var, t_var, w_int, w_str, w_bl, w_non, w_gl, w_bin, w_neg, t_cmp, w_cmp, t_chain, w_chain, t_isC, w_isC, w_isi, t_isi, t_bop1, t_bop, w_bop1, w_bop, t_nt, w_nt, w_ite, t_ite, w_nil, w_cons, a_tup, w_fz, w_mu, a_disp, a_comp, w_ofSeq, w_call, w_prim, w_ix, w_sl, w_rev, w_pop, w_popAt, w_app, e_nop, e_int, e_var, e_bin, i_seq, a_rng, rngA_int, a_rng2, rngB_int, a_zip, zipA_some, a_enum, enA_some, src_tsI, src_lsI, t_call, t_prim, tru_bl, opt_some, t_nop, List.getElem?_cons_zero, List.getElem?_cons_succ, setTg, setTgs, List.set_cons_zero, List.set_cons_succ, wp_ok, wipeE, len0, len1, len2, len3, len4, len5, len6, len7, len8, len9, len10, if_true, if_false, Bool.false_eq_true, eq_int, ne_int, gt_int, lt_int', le_int', ge_int', add_int, sub_int, abs_int, int_int, Option.map_some, src_lst, src_tup, ix_t0, ix_t1, ix_t2, ix_t3, ix_l0, ix_l1, ix_l2, is_non, and_true, true_and, Bool.not_false])
          refine draw_wp h7 d'' (by omega) (by decide) (by decide) fun w S4 w0 w1 d4 g4 => ?_
          have o4 := g4.own oo hL
          (try simp only [List.cons_append, List.nil_append, w_var, t_var, w_int, w_str, w_bl, w_non, w_gl, w_bin, w_neg, t_cmp, w_cmp, t_chain, w_chain, t_isC, w_isC, w_isi, t_isi, t_bop1, t_bop, w_bop1, w_bop, t_nt, w_nt, w_ite, t_ite, w_nil, w_cons, a_tup, w_fz, w_mu, a_disp, a_comp, w_ofSeq, w_call, w_prim, w_ix, w_sl, w_rev, w_pop, w_popAt, w_app, e_nop, e_int, e_var, e_bin, i_seq, a_rng, rngA_int, a_rng2, rngB_int, a_zip, zipA_some, a_enum, enA_some, src_tsI, src_lsI, t_call, t_prim, tru_bl, opt_some, t_nop, List.getElem?_cons_zero, List.getElem?_cons_succ, setTg, setTgs, List.set_cons_zero, List.set_cons_succ, wp_ok, wipeE, len0, len1, len2, len3, len4, len5, len6, len7, len8, len9, len10, if_true, if_false, Bool.false_eq_true, eq_int, ne_int, gt_int, lt_int', le_int', ge_int', add_int, sub_int, abs_int, int_int, Option.map_some, src_lst, src_tup, ix_t0, ix_t1, ix_t2, ix_t3, ix_l0, ix_l1, ix_l2, is_non, and_true, true_and])
          by_cases hw : w = 0
          · rw [show (w == 0) = true by simp [hw], kI_t, List.cons_append, List.nil_append, q_asg]
            (try simp only [List.cons_append, List.nil_append, w_var, t_var, w_int, w_str, w_bl, w_non, w_gl, w_bin, w_neg, t_cmp, w_cmp, t_chain, w_chain, t_isC, w_isC, w_isi, t_isi, t_bop1, t_bop, w_bop1, w_bop, t_nt, w_nt, w_ite, t_ite, w_nil, w_cons, a_tup, w_fz, w_mu, a_disp, a_comp, w_ofSeq, w_call, w_prim, w_ix, w_sl, w_rev, w_pop, w_popAt, w_app, e_nop, e_int, e_var, e_bin, i_seq, a_rng, rngA_int, a_rng2, rngB_int, a_zip, zipA_some, a_enum, enA_some, src_tsI, src_lsI, t_call, t_prim, tru_bl, opt_some, t_nop, List.getElem?_cons_zero, List.getElem?_cons_succ, setTg, setTgs, List.set_cons_zero, List.set_cons_succ, wp_ok, wipeE, len0, len1, len2, len3, len4, len5, len6, len7, len8, len9, len10, if_true, if_false, Bool.false_eq_true, eq_int, ne_int, gt_int, lt_int', le_int', ge_int', add_int, sub_int, abs_int, int_int, Option.map_some, src_lst, src_tup, ix_t0, ix_t1, ix_t2, ix_t3, ix_l0, ix_l1, ix_l2, is_non, and_true, true_and])
            refine pick_cell h8 h87 d4 (by omega) o4 hL (by intro z; rw [List.map_eq_nil_iff] at z; rw [z] at hF; cases hF) (by rw [List.length_map]; omega) fun u S5 hu d5 g5 => ?_
            obtain ⟨o, ho, rfl⟩ := List.mem_map.mp hu
            obtain ⟨lo, bo⟩ := bF o ho
            have o5 := g5.own o4 hL
            have l1 : (((own.zip o).map pr).length ≤ lim) = True := len_map (by rw [List.length_zip]; omega)
            (try simp only [List.cons_append, List.nil_append, w_var, t_var, w_int, w_str, w_bl, w_non, w_gl, w_bin, w_neg, t_cmp, w_cmp, t_chain, w_chain, t_isC, w_isC, w_isi, t_isi, t_bop1, t_bop, w_bop1, w_bop, t_nt, w_nt, w_ite, t_ite, w_nil, w_cons, a_tup, w_fz, w_mu, a_disp, a_comp, w_ofSeq, w_call, w_prim, w_ix, w_sl, w_rev, w_pop, w_popAt, w_app, e_nop, e_int, e_var, e_bin, i_seq, a_rng, rngA_int, a_rng2, rngB_int, a_zip, zipA_some, a_enum, enA_some, src_tsI, src_lsI, t_call, t_prim, tru_bl, opt_some, t_nop, List.getElem?_cons_zero, List.getElem?_cons_succ, setTg, setTgs, List.set_cons_zero, List.set_cons_succ, wp_ok, wipeE, len0, len1, len2, len3, len4, len5, len6, len7, len8, len9, len10, if_true, if_false, Bool.false_eq_true, eq_int, ne_int, gt_int, lt_int', le_int', ge_int', add_int, sub_int, abs_int, int_int, Option.map_some, src_lst, src_tup, ix_t0, ix_t1, ix_t2, ix_t3, ix_l0, ix_l1, ix_l2, is_non, and_true, true_and, zipT_pr, l1])
            rw [comp_all (fun p : Int × Int => Tv.int (p.1 + p.2)) rfl (fun p hp => by (try simp only [exs_nil, q_asg, kA_eq, kR_eq, q_drop, kD_eq, q_ret, q_if, kI_t, kI_f, q_set, kS_eq, q_pass, q_brk, q_cont, q_for, kF_eq, List.cons_append, List.nil_append, w_var, t_var, w_int, w_str, w_bl, w_non, w_gl, w_bin, w_neg, t_cmp, w_cmp, t_chain, w_chain, t_isC, w_isC, w_isi, t_isi, t_bop1, t_bop, w_bop1, w_bop, t_nt, w_nt, w_ite, t_ite, w_nil, w_cons, a_tup, w_fz, w_mu, a_disp, a_comp, w_ofSeq, w_call, w_prim, w_ix, w_sl, w_rev, w_pop, w_popAt, w_app, e_nop, e_int, e_var, e_bin, i_seq, a_rng, rngA_int, a_rng2, rngB_int, a_zip, zipA_some, a_enum, enA_some, src_tsI, src_lsI, t_call, t_prim, tru_bl, opt_some, t_nop, List.getElem?_cons_zero, List.getElem?_cons_succ, setTg, setTgs, List.set_cons_zero, List.set_cons_succ, wp_ok, wipeE, len0, len1, len2, len3, len4, len5, len6, len7, len8, len9, len10, if_true, if_false, Bool.false_eq_true, eq_int, ne_int, gt_int, lt_int', le_int', ge_int', add_int, sub_int, abs_int, int_int, Option.map_some, src_lst, src_tup, ix_t0, ix_t1, ix_t2, ix_t3, ix_l0, ix_l1, ix_l2, is_non, and_true, true_and, pr]))]
            have e : ((own.zip o).map fun p : Int × Int => Tv.int (p.1 + p.2)) = (List.zipWith (fun x y => x + y) own o).map Tv.int := by
              rw [← List.map_uncurry_zip_eq_zipWith, List.map_map]
              rfl
            rw [e]
            (try simp only [List.cons_append, List.nil_append, w_var, t_var, w_int, w_str, w_bl, w_non, w_gl, w_bin, w_neg, t_cmp, w_cmp, t_chain, w_chain, t_isC, w_isC, w_isi, t_isi, t_bop1, t_bop, w_bop1, w_bop, t_nt, w_nt, w_ite, t_ite, w_nil, w_cons, a_tup, w_fz, w_mu, a_disp, a_comp, w_ofSeq, w_call, w_prim, w_ix, w_sl, w_rev, w_pop, w_popAt, w_app, e_nop, e_int, e_var, e_bin, i_seq, a_rng, rngA_int, a_rng2, rngB_int, a_zip, zipA_some, a_enum, enA_some, src_tsI, src_lsI, t_call, t_prim, tru_bl, opt_some, t_nop, List.getElem?_cons_zero, List.getElem?_cons_succ, setTg, setTgs, List.set_cons_zero, List.set_cons_succ, wp_ok, wipeE, len0, len1, len2, len3, len4, len5, len6, len7, len8, len9, len10, if_true, if_false, Bool.false_eq_true, eq_int, ne_int, gt_int, lt_int', le_int', ge_int', add_int, sub_int, abs_int, int_int, Option.map_some, src_lst, src_tup, ix_t0, ix_t1, ix_t2, ix_t3, ix_l0, ix_l1, ix_l2, is_non, and_true, true_and])
            rw [kA_eq]
            (try simp only [List.cons_append, List.nil_append, w_var, t_var, w_int, w_str, w_bl, w_non, w_gl, w_bin, w_neg, t_cmp, w_cmp, t_chain, w_chain, t_isC, w_isC, w_isi, t_isi, t_bop1, t_bop, w_bop1, w_bop, t_nt, w_nt, w_ite, t_ite, w_nil, w_cons, a_tup, w_fz, w_mu, a_disp, a_comp, w_ofSeq, w_call, w_prim, w_ix, w_sl, w_rev, w_pop, w_popAt, w_app, e_nop, e_int, e_var, e_bin, i_seq, a_rng, rngA_int, a_rng2, rngB_int, a_zip, zipA_some, a_enum, enA_some, src_tsI, src_lsI, t_call, t_prim, tru_bl, opt_some, t_nop, List.getElem?_cons_zero, List.getElem?_cons_succ, setTg, setTgs, List.set_cons_zero, List.set_cons_succ, wp_ok, wipeE, len0, len1, len2, len3, len4, len5, len6, len7, len8, len9, len10, if_true, if_false, Bool.false_eq_true, eq_int, ne_int, gt_int, lt_int', le_int', ge_int', add_int, sub_int, abs_int, int_int, Option.map_some, src_lst, src_tup, ix_t0, ix_t1, ix_t2, ix_t3, ix_l0, ix_l1, ix_l2, is_non, and_true, true_and])
            refine fin D (List.zipWith (fun x y => x + y) own o) _ S5 j3 j4 j6 j7 j8 j9 j10 (by rw [List.length_zipWith]; omega) (fun x hx => ?_) (by omega) d5 (g''.trans (g4.trans g5)) o5 hD
            rw [← List.map_uncurry_zip_eq_zipWith] at hx
            obtain ⟨p, hp, rfl⟩ := List.mem_map.mp hx
            exact ((ob _ (List.of_mem_zip hp).1).add ((bo _ (List.of_mem_zip hp).2).mono (by omega))).mono (by omega)
          · rw [show (w == 0) = false by simp [hw], kI_f, List.nil_append]
            exact straight _ S4 (by omega) d4 (g''.trans g4) o4
      rw [show Tv.lst (own.map Tv.int) = lsI own from rfl, kA_eq]
      (try simp only [List.cons_append, List.nil_append, w_var, t_var, w_int, w_str, w_bl, w_non, w_gl, w_bin, w_neg, t_cmp, w_cmp, t_chain, w_chain, t_isC, w_isC, w_isi, t_isi, t_bop1, t_bop, w_bop1, w_bop, t_nt, w_nt, w_ite, t_ite, w_nil, w_cons, a_tup, w_fz, w_mu, a_disp, a_comp, w_ofSeq, w_call, w_prim, w_ix, w_sl, w_rev, w_pop, w_popAt, w_app, e_nop, e_int, e_var, e_bin, i_seq, a_rng, rngA_int, a_rng2, rngB_int, a_zip, zipA_some, a_enum, enA_some, src_tsI, src_lsI, t_call, t_prim, tru_bl, opt_some, t_nop, List.getElem?_cons_zero, List.getElem?_cons_succ, setTg, setTgs, List.set_cons_zero, List.set_cons_succ, wp_ok, wipeE, len0, len1, len2, len3, len4, len5, len6, len7, len8, len9, len10, if_true, if_false, Bool.false_eq_true, eq_int, ne_int, gt_int, lt_int', le_int', ge_int', add_int, sub_int, abs_int, int_int, Option.map_some, src_lst, src_tup, ix_t0, ix_t1, ix_t2, ix_t3, ix_l0, ix_l1, ix_l2, is_non, and_true, true_and])
      rw [q_if]
      (try simp only [List.cons_append, List.nil_append, w_var, t_var, w_int, w_str, w_bl, w_non, w_gl, w_bin, w_neg, t_cmp, w_cmp, t_chain, w_chain, t_isC, w_isC, w_isi, t_isi, t_bop1, t_bop, w_bop1, w_bop, t_nt, w_nt, w_ite, t_ite, w_nil, w_cons, a_tup, w_fz, w_mu, a_disp, a_comp, w_ofSeq, w_call, w_prim, w_ix, w_sl, w_rev, w_pop, w_popAt, w_app, e_nop, e_int, e_var, e_bin, i_seq, a_rng, rngA_int, a_rng2, rngB_int, a_zip, zipA_some, a_enum, enA_some, src_tsI, src_lsI, t_call, t_prim, tru_bl, opt_some, t_nop, List.getElem?_cons_zero, List.getElem?_cons_succ, setTg, setTgs, List.set_cons_zero, List.set_cons_succ, wp_ok, wipeE, len0, len1, len2, len3, len4, len5, len6, len7, len8, len9, len10, if_true, if_false, Bool.false_eq_true, eq_int, ne_int, gt_int, lt_int', le_int', ge_int', add_int, sub_int, abs_int, int_int, Option.map_some, src_lst, src_tup, ix_t0, ix_t1, ix_t2, ix_t3, ix_l0, ix_l1, ix_l2, is_non, and_true, true_and, ne_cell o3 (by omega)])
      cases hF : F.isEmpty with
      | true =>
        (try simp only [List.cons_append, List.nil_append, w_var, t_var, w_int, w_str, w_bl, w_non, w_gl, w_bin, w_neg, t_cmp, w_cmp, t_chain, w_chain, t_isC, w_isC, w_isi, t_isi, t_bop1, t_bop, w_bop1, w_bop, t_nt, w_nt, w_ite, t_ite, w_nil, w_cons, a_tup, w_fz, w_mu, a_disp, a_comp, w_ofSeq, w_call, w_prim, w_ix, w_sl, w_rev, w_pop, w_popAt, w_app, e_nop, e_int, e_var, e_bin, i_seq, a_rng, rngA_int, a_rng2, rngB_int, a_zip, zipA_some, a_enum, enA_some, src_tsI, src_lsI, t_call, t_prim, tru_bl, opt_some, t_nop, List.getElem?_cons_zero, List.getElem?_cons_succ, setTg, setTgs, List.set_cons_zero, List.set_cons_succ, wp_ok, wipeE, len0, len1, len2, len3, len4, len5, len6, len7, len8, len9, len10, if_true, if_false, Bool.false_eq_true, eq_int, ne_int, gt_int, lt_int', le_int', ge_int', add_int, sub_int, abs_int, int_int, Option.map_some, src_lst, src_tup, ix_t0, ix_t1, ix_t2, ix_t3, ix_l0, ix_l1, ix_l2, is_non, and_true, true_and, Bool.not_true])
        rw [kI_f, List.nil_append]
        exact second _ own _ S3 _ _ _ _ _ _ _ ol (fun x hx => (obd x hx).mono (by omega)) (by omega) d3 gS3 o3 fun _ _ h => h
      | false =>
        (try simp only [List.cons_append, List.nil_append, w_var, t_var, w_int, w_str, w_bl, w_non, w_gl, w_bin, w_neg, t_cmp, w_cmp, t_chain, w_chain, t_isC, w_isC, w_isi, t_isi, t_bop1, t_bop, w_bop1, w_bop, t_nt, w_nt, w_ite, t_ite, w_nil, w_cons, a_tup, w_fz, w_mu, a_disp, a_comp, w_ofSeq, w_call, w_prim, w_ix, w_sl, w_rev, w_pop, w_popAt, w_app, e_nop, e_int, e_var, e_bin, i_seq, a_rng, rngA_int, a_rng2, rngB_int, a_zip, zipA_some, a_enum, enA_some, src_tsI, src_lsI, t_call, t_prim, tru_bl, opt_some, t_nop, List.getElem?_cons_zero, List.getElem?_cons_succ, setTg, setTgs, List.set_cons_zero, List.set_cons_succ, wp_ok, wipeE, len0, len1, len2, len3, len4, len5, len6, len7, len8, len9, len10, if_true, if_false, Bool.false_eq_true, eq_int, ne_int, gt_int, lt_int', le_int', ge_int', add_int, sub_int, abs_int, int_int, Option.map_some, src_lst, src_tup, ix_t0, ix_t1, ix_t2, ix_t3, ix_l0, ix_l1, ix_l2, is_non, and_true, true_and, Bool.not_false])
        refine draw_wp h7 d3 (by omega) (by decide) (by decide) fun w S4 w0 w1 d4 g4 => ?_
        have o4 := g4.own o3 hL
        (try simp only [List.cons_append, List.nil_append, w_var, t_var, w_int, w_str, w_bl, w_non, w_gl, w_bin, w_neg, t_cmp, w_cmp, t_chain, w_chain, t_isC, w_isC, w_isi, t_isi, t_bop1, t_bop, w_bop1, w_bop, t_nt, w_nt, w_ite, t_ite, w_nil, w_cons, a_tup, w_fz, w_mu, a_disp, a_comp, w_ofSeq, w_call, w_prim, w_ix, w_sl, w_rev, w_pop, w_popAt, w_app, e_nop, e_int, e_var, e_bin, i_seq, a_rng, rngA_int, a_rng2, rngB_int, a_zip, zipA_some, a_enum, enA_some, src_tsI, src_lsI, t_call, t_prim, tru_bl, opt_some, t_nop, List.getElem?_cons_zero, List.getElem?_cons_succ, setTg, setTgs, List.set_cons_zero, List.set_cons_succ, wp_ok, wipeE, len0, len1, len2, len3, len4, len5, len6, len7, len8, len9, len10, if_true, if_false, Bool.false_eq_true, eq_int, ne_int, gt_int, lt_int', le_int', ge_int', add_int, sub_int, abs_int, int_int, Option.map_some, src_lst, src_tup, ix_t0, ix_t1, ix_t2, ix_t3, ix_l0, ix_l1, ix_l2, is_non, and_true, true_and])
        by_cases hw : w = 0
        · rw [show (w == 0) = true by simp [hw], kI_t, List.cons_append, List.cons_append, List.nil_append, q_asg]
          (try simp only [List.cons_append, List.nil_append, w_var, t_var, w_int, w_str, w_bl, w_non, w_gl, w_bin, w_neg, t_cmp, w_cmp, t_chain, w_chain, t_isC, w_isC, w_isi, t_isi, t_bop1, t_bop, w_bop1, w_bop, t_nt, w_nt, w_ite, t_ite, w_nil, w_cons, a_tup, w_fz, w_mu, a_disp, a_comp, w_ofSeq, w_call, w_prim, w_ix, w_sl, w_rev, w_pop, w_popAt, w_app, e_nop, e_int, e_var, e_bin, i_seq, a_rng, rngA_int, a_rng2, rngB_int, a_zip, zipA_some, a_enum, enA_some, src_tsI, src_lsI, t_call, t_prim, tru_bl, opt_some, t_nop, List.getElem?_cons_zero, List.getElem?_cons_succ, setTg, setTgs, List.set_cons_zero, List.set_cons_succ, wp_ok, wipeE, len0, len1, len2, len3, len4, len5, len6, len7, len8, len9, len10, if_true, if_false, Bool.false_eq_true, eq_int, ne_int, gt_int, lt_int', le_int', ge_int', add_int, sub_int, abs_int, int_int, Option.map_some, src_lst, src_tup, ix_t0, ix_t1, ix_t2, ix_t3, ix_l0, ix_l1, ix_l2, is_non, and_true, true_and])
          refine draw_wp h7 d4 (by omega) (by decide) (by decide) fun y S5 y0 y1 d5 g5 => ?_
          have o5 := g5.own o4 hL
          (try simp only [List.cons_append, List.nil_append, w_var, t_var, w_int, w_str, w_bl, w_non, w_gl, w_bin, w_neg, t_cmp, w_cmp, t_chain, w_chain, t_isC, w_isC, w_isi, t_isi, t_bop1, t_bop, w_bop1, w_bop, t_nt, w_nt, w_ite, t_ite, w_nil, w_cons, a_tup, w_fz, w_mu, a_disp, a_comp, w_ofSeq, w_call, w_prim, w_ix, w_sl, w_rev, w_pop, w_popAt, w_app, e_nop, e_int, e_var, e_bin, i_seq, a_rng, rngA_int, a_rng2, rngB_int, a_zip, zipA_some, a_enum, enA_some, src_tsI, src_lsI, t_call, t_prim, tru_bl, opt_some, t_nop, List.getElem?_cons_zero, List.getElem?_cons_succ, setTg, setTgs, List.set_cons_zero, List.set_cons_succ, wp_ok, wipeE, len0, len1, len2, len3, len4, len5, len6, len7, len8, len9, len10, if_true, if_false, Bool.false_eq_true, eq_int, ne_int, gt_int, lt_int', le_int', ge_int', add_int, sub_int, abs_int, int_int, Option.map_some, src_lst, src_tup, ix_t0, ix_t1, ix_t2, ix_t3, ix_l0, ix_l1, ix_l2, is_non, and_true, true_and])
          rw [kA_eq]
          (try simp only [List.cons_append, List.nil_append, w_var, t_var, w_int, w_str, w_bl, w_non, w_gl, w_bin, w_neg, t_cmp, w_cmp, t_chain, w_chain, t_isC, w_isC, w_isi, t_isi, t_bop1, t_bop, w_bop1, w_bop, t_nt, w_nt, w_ite, t_ite, w_nil, w_cons, a_tup, w_fz, w_mu, a_disp, a_comp, w_ofSeq, w_call, w_prim, w_ix, w_sl, w_rev, w_pop, w_popAt, w_app, e_nop, e_int, e_var, e_bin, i_seq, a_rng, rngA_int, a_rng2, rngB_int, a_zip, zipA_some, a_enum, enA_some, src_tsI, src_lsI, t_call, t_prim, tru_bl, opt_some, t_nop, List.getElem?_cons_zero, List.getElem?_cons_succ, setTg, setTgs, List.set_cons_zero, List.set_cons_succ, wp_ok, wipeE, len0, len1, len2, len3, len4, len5, len6, len7, len8, len9, len10, if_true, if_false, Bool.false_eq_true, eq_int, ne_int, gt_int, lt_int', le_int', ge_int', add_int, sub_int, abs_int, int_int, Option.map_some, src_lst, src_tup, ix_t0, ix_t1, ix_t2, ix_t3, ix_l0, ix_l1, ix_l2, is_non, and_true, true_and])
          rw [q_asg]
          (try simp only [List.cons_append, List.nil_append, w_var, t_var, w_int, w_str, w_bl, w_non, w_gl, w_bin, w_neg, t_cmp, w_cmp, t_chain, w_chain, t_isC, w_isC, w_isi, t_isi, t_bop1, t_bop, w_bop1, w_bop, t_nt, w_nt, w_ite, t_ite, w_nil, w_cons, a_tup, w_fz, w_mu, a_disp, a_comp, w_ofSeq, w_call, w_prim, w_ix, w_sl, w_rev, w_pop, w_popAt, w_app, e_nop, e_int, e_var, e_bin, i_seq, a_rng, rngA_int, a_rng2, rngB_int, a_zip, zipA_some, a_enum, enA_some, src_tsI, src_lsI, t_call, t_prim, tru_bl, opt_some, t_nop, List.getElem?_cons_zero, List.getElem?_cons_succ, setTg, setTgs, List.set_cons_zero, List.set_cons_succ, wp_ok, wipeE, len0, len1, len2, len3, len4, len5, len6, len7, len8, len9, len10, if_true, if_false, Bool.false_eq_true, eq_int, ne_int, gt_int, lt_int', le_int', ge_int', add_int, sub_int, abs_int, int_int, Option.map_some, src_lst, src_tup, ix_t0, ix_t1, ix_t2, ix_t3, ix_l0, ix_l1, ix_l2, is_non, and_true, true_and])
          refine pick_cell h8 h87 d5 (by omega) o5 hL (by intro z; rw [List.map_eq_nil_iff] at z; rw [z] at hF; cases hF) (by rw [List.length_map]; omega) fun u S6 hu d6 g6 => ?_
          obtain ⟨o, ho, rfl⟩ := List.mem_map.mp hu
          obtain ⟨lo, bo⟩ := bF o ho
          have o6 := g6.own o5 hL
          have l1 : ((o.map Tv.int).length ≤ lim) = True := len_map (by omega)
          have by3 : Bd 2 (y - 3) := Bd.of (m := 3) (by omega) (by decide)
          (try simp only [List.cons_append, List.nil_append, w_var, t_var, w_int, w_str, w_bl, w_non, w_gl, w_bin, w_neg, t_cmp, w_cmp, t_chain, w_chain, t_isC, w_isC, w_isi, t_isi, t_bop1, t_bop, w_bop1, w_bop, t_nt, w_nt, w_ite, t_ite, w_nil, w_cons, a_tup, w_fz, w_mu, a_disp, a_comp, w_ofSeq, w_call, w_prim, w_ix, w_sl, w_rev, w_pop, w_popAt, w_app, e_nop, e_int, e_var, e_bin, i_seq, a_rng, rngA_int, a_rng2, rngB_int, a_zip, zipA_some, a_enum, enA_some, src_tsI, src_lsI, t_call, t_prim, tru_bl, opt_some, t_nop, List.getElem?_cons_zero, List.getElem?_cons_succ, setTg, setTgs, List.set_cons_zero, List.set_cons_succ, wp_ok, wipeE, len0, len1, len2, len3, len4, len5, len6, len7, len8, len9, len10, if_true, if_false, Bool.false_eq_true, eq_int, ne_int, gt_int, lt_int', le_int', ge_int', add_int, sub_int, abs_int, int_int, Option.map_some, src_lst, src_tup, ix_t0, ix_t1, ix_t2, ix_t3, ix_l0, ix_l1, ix_l2, is_non, and_true, true_and, l1])
          rw [comp_all (fun x : Int => Tv.int ((y - 3) * x)) rfl (fun x hx => by
            have m1 : ∀ S, binV .mul S (.int (y - 3)) (.int x) = some (.int ((y - 3) * x)) := fun S => mul_bd by3 (bo x hx) (by omega)
            (try simp only [exs_nil, q_asg, kA_eq, kR_eq, q_drop, kD_eq, q_ret, q_if, kI_t, kI_f, q_set, kS_eq, q_pass, q_brk, q_cont, q_for, kF_eq, List.cons_append, List.nil_append, w_var, t_var, w_int, w_str, w_bl, w_non, w_gl, w_bin, w_neg, t_cmp, w_cmp, t_chain, w_chain, t_isC, w_isC, w_isi, t_isi, t_bop1, t_bop, w_bop1, w_bop, t_nt, w_nt, w_ite, t_ite, w_nil, w_cons, a_tup, w_fz, w_mu, a_disp, a_comp, w_ofSeq, w_call, w_prim, w_ix, w_sl, w_rev, w_pop, w_popAt, w_app, e_nop, e_int, e_var, e_bin, i_seq, a_rng, rngA_int, a_rng2, rngB_int, a_zip, zipA_some, a_enum, enA_some, src_tsI, src_lsI, t_call, t_prim, tru_bl, opt_some, t_nop, List.getElem?_cons_zero, List.getElem?_cons_succ, setTg, setTgs, List.set_cons_zero, List.set_cons_succ, wp_ok, wipeE, len0, len1, len2, len3, len4, len5, len6, len7, len8, len9, len10, if_true, if_false, Bool.false_eq_true, eq_int, ne_int, gt_int, lt_int', le_int', ge_int', add_int, sub_int, abs_int, int_int, Option.map_some, src_lst, src_tup, ix_t0, ix_t1, ix_t2, ix_t3, ix_l0, ix_l1, ix_l2, is_non, and_true, true_and, m1]))]
          have e : (o.map fun x : Int => Tv.int ((y - 3) * x)) = (o.map fun x : Int => (y - 3) * x).map Tv.int := by rw [List.map_map]; rfl
          rw [e]
          (try simp only [List.cons_append, List.nil_append, w_var, t_var, w_int, w_str, w_bl, w_non, w_gl, w_bin, w_neg, t_cmp, w_cmp, t_chain, w_chain, t_isC, w_isC, w_isi, t_isi, t_bop1, t_bop, w_bop1, w_bop, t_nt, w_nt, w_ite, t_ite, w_nil, w_cons, a_tup, w_fz, w_mu, a_disp, a_comp, w_ofSeq, w_call, w_prim, w_ix, w_sl, w_rev, w_pop, w_popAt, w_app, e_nop, e_int, e_var, e_bin, i_seq, a_rng, rngA_int, a_rng2, rngB_int, a_zip, zipA_some, a_enum, enA_some, src_tsI, src_lsI, t_call, t_prim, tru_bl, opt_some, t_nop, List.getElem?_cons_zero, List.getElem?_cons_succ, setTg, setTgs, List.set_cons_zero, List.set_cons_succ, wp_ok, wipeE, len0, len1, len2, len3, len4, len5, len6, len7, len8, len9, len10, if_true, if_false, Bool.false_eq_true, eq_int, ne_int, gt_int, lt_int', le_int', ge_int', add_int, sub_int, abs_int, int_int, Option.map_some, src_lst, src_tup, ix_t0, ix_t1, ix_t2, ix_t3, ix_l0, ix_l1, ix_l2, is_non, and_true, true_and])
          rw [kA_eq]
          (try simp only [List.cons_append, List.nil_append, w_var, t_var, w_int, w_str, w_bl, w_non, w_gl, w_bin, w_neg, t_cmp, w_cmp, t_chain, w_chain, t_isC, w_isC, w_isi, t_isi, t_bop1, t_bop, w_bop1, w_bop, t_nt, w_nt, w_ite, t_ite, w_nil, w_cons, a_tup, w_fz, w_mu, a_disp, a_comp, w_ofSeq, w_call, w_prim, w_ix, w_sl, w_rev, w_pop, w_popAt, w_app, e_nop, e_int, e_var, e_bin, i_seq, a_rng, rngA_int, a_rng2, rngB_int, a_zip, zipA_some, a_enum, enA_some, src_tsI, src_lsI, t_call, t_prim, tru_bl, opt_some, t_nop, List.getElem?_cons_zero, List.getElem?_cons_succ, setTg, setTgs, List.set_cons_zero, List.set_cons_succ, wp_ok, wipeE, len0, len1, len2, len3, len4, len5, len6, len7, len8, len9, len10, if_true, if_false, Bool.false_eq_true, eq_int, ne_int, gt_int, lt_int', le_int', ge_int', add_int, sub_int, abs_int, int_int, Option.map_some, src_lst, src_tup, ix_t0, ix_t1, ix_t2, ix_t3, ix_l0, ix_l1, ix_l2, is_non, and_true, true_and])
          exact second _ (o.map fun x : Int => (y - 3) * x) _ S6 _ _ _ _ _ _ _ (by rw [List.length_map]; exact lo) (fun x hx => by
            obtain ⟨z, hz, rfl⟩ := List.mem_map.mp hx
            exact (by3.mul (bo z hz)).mono (by omega)) (by omega) d6 (gS3.trans (g4.trans (g5.trans g6))) o6 fun _ _ h => h
        · rw [show (w == 0) = false by simp [hw], kI_f, List.nil_append]
          exact second _ own _ S4 _ _ _ _ _ _ _ ol (fun x hx => (obd x hx).mono (by omega)) (by omega) d4 (gS3.trans g4) o4 fun _ _ h => h
  · rintro env S' ⟨hlen, d', g', j3, j4, j5, j6, j7, j8, j9, j10, F, rfl, oF, lF, bF⟩
    rw [List.length_nil] at hlen
    have e : primV .tuple S' [.cell S.length] = some (.tup (F.map tsI)) := tup_cell oF
    (try simp only [exs_nil, q_asg, kA_eq, kR_eq, q_drop, kD_eq, q_ret, q_if, kI_t, kI_f, q_set, kS_eq, q_pass, q_brk, q_cont, q_for, kF_eq, List.cons_append, List.nil_append, w_var, t_var, w_int, w_str, w_bl, w_non, w_gl, w_bin, w_neg, t_cmp, w_cmp, t_chain, w_chain, t_isC, w_isC, w_isi, t_isi, t_bop1, t_bop, w_bop1, w_bop, t_nt, w_nt, w_ite, t_ite, w_nil, w_cons, a_tup, w_fz, w_mu, a_disp, a_comp, w_ofSeq, w_call, w_prim, w_ix, w_sl, w_rev, w_pop, w_popAt, w_app, e_nop, e_int, e_var, e_bin, i_seq, a_rng, rngA_int, a_rng2, rngB_int, a_zip, zipA_some, a_enum, enA_some, src_tsI, src_lsI, t_call, t_prim, tru_bl, opt_some, t_nop, List.getElem?_cons_zero, List.getElem?_cons_succ, setTg, setTgs, List.set_cons_zero, List.set_cons_succ, wp_ok, wipeE, len0, len1, len2, len3, len4, len5, len6, len7, len8, len9, len10, if_true, if_false, Bool.false_eq_true, eq_int, ne_int, gt_int, lt_int', le_int', ge_int', add_int, sub_int, abs_int, int_int, Option.map_some, src_lst, src_tup, ix_t0, ix_t1, ix_t2, ix_t3, ix_l0, ix_l1, ix_l2, is_non, and_true, true_and, e])
    refine ⟨⟨F, rfl, by omega, fun r hr => ⟨(bF r hr).1, fun x hx => ((bF r hr).2 x hx).mono (by omega)⟩⟩, d'.mono (by omega), g'⟩
end Mp
namespace Mp
theorem rOks_ints {k : Nat} : ∀ {ns : List Int}, (∀ x ∈ ns, Bd 1900 x) → Tv.rOks k (ns.map Tv.int) = true
  | [], _ => rfl
  | n :: ns, h => by
    have := (h n List.mem_cons_self).log
    rw [List.map_cons, Tv.rOks, rOks_ints fun x hx => h x (List.mem_cons_of_mem _ hx)]
    have e : Tv.rOk k (.int n) = true := by
      cases k <;> exact decide_eq_true (by omega)
    rw [e]
    rfl
theorem rOks_rows {k : Nat} : ∀ {R : List (List Int)}, (∀ r ∈ R, ∀ x ∈ r, Bd 1900 x) → Tv.rOks (k + 1) (R.map tsI) = true
  | [], _ => rfl
  | r :: R, h => by
    rw [List.map_cons, Tv.rOks, rOks_rows fun x hx => h x (List.mem_cons_of_mem _ hx), tsI, Tv.rOk, rOks_ints (h r List.mem_cons_self)]
    rfl
theorem bulks_ints : ∀ {ns : List Int}, Tv.bulks (ns.map Tv.int) = ns.length
  | [] => rfl
  | n :: ns => by
    rw [List.map_cons, Tv.bulks, bulks_ints, List.length_cons, show Tv.bulk (.int n) = 0 from rfl]
    omega
theorem bulks_rows {n : Nat} : ∀ {R : List (List Int)}, (∀ r ∈ R, r.length ≤ n) → Tv.bulks (R.map tsI) ≤ R.length * (n + 1)
  | [], _ => Nat.zero_le _
  | r :: R, h => by
    have := bulks_rows (R := R) fun x hx => h x (List.mem_cons_of_mem _ hx)
    have h1 := h r List.mem_cons_self
    rw [List.map_cons, Tv.bulks, tsI, Tv.bulk, bulks_ints, List.length_cons, Nat.add_mul]
    omega
/-- what repr shows of rows -/
theorem repr_rows {S : Sto} {R : List (List Int)} {n : Nat} (h : ∀ r ∈ R, r.length ≤ n ∧ ∀ x ∈ r, Bd 1900 x) (hb : R.length * (n + 1) ≤ 20000) : primV .repr S [.tup (R.map tsI)] = some (.str (Tv.shown (.tup (R.map tsI)))) := by
  refine repr_ok rfl ?_ ?_
  · rw [Tv.rOk]
    exact rOks_rows fun r hr => (h r hr).2
  · rw [Tv.bulk]
    exact Nat.le_trans (bulks_rows fun r hr => (h r hr).1) hb
def xLaw_k12 : Df := ⟨6, 1,
  [
    .asg (.v 1) (.call 6 [(.var 0)]),
    .ifS (.bop false [(.cmp .ne (.prim .repr [(.call 18 [(.tup [(.tup [(.int 2), (.int 4), (.int 0)]), (.tup [(.int 1), (.int 2), (.int 0)]), (.tup [(.int 3), (.int 0), (.int 1)])])])]) (.str "((1, 2, 0), (0, -6, 1))")), (.cmp .ne (.call 18 [(.tup [])]) (.tup []))])
      [
        .ret (.bl false)]
      [],
    .forS (.v 2) (.rng (.int 10))
      [
        .asg (.v 3) (.call 20 [(.var 1), (.bin .add (.int 1) (.call 7 [(.var 1), (.int 4)]))]),
        .asg (.tup [(.v 4), (.v 5)]) (.tup [(.prim .repr [(.var 3)]), (.call 19 [(.var 3)])]),
        .ifS (.bop false [(.cmp .ne (.prim .repr [(.call 18 [(.var 3)])]) (.prim .repr [(.var 5)])), (.cmp .ne (.prim .repr [(.call 18 [(.var 5)])]) (.prim .repr [(.var 5)])), (.cmp .ne (.prim .repr [(.var 3)]) (.var 4))])
          [
            .ret (.bl false)]
          []],
    .ret (.bl true)]⟩
def exR : List (List Int) := [[2, 4, 0], [1, 2, 0], [3, 0, 1]]
theorem exR_red : Qr.red exR = [[1, 2, 0], [0, -6, 1]] := by decide +kernel
theorem exR_shown : (Tv.shown (.tup ([[1, 2, 0], [0, -6, 1]].map tsI)) == ("((1, 2, 0), (0, -6, 1))" : PySem.Str)) = true := by decide +kernel
theorem k12_law {cf c7 : Nat → List Tv → M Tv} {ns : List Int}
    (h6 : (cf 6 [.scr (ns.map Tv.int)] []).wp fun t S => t = .cell 1 ∧ Dk 0 S)
    (h7 : cf 7 = runD c7 xDraw)
    (h18 : ∃ c', cf 18 = runD c' xReduced ∧ RowDefs c')
    (h19 : ∀ (S : Sto) (rs : List (List Int)) (n b : Nat), (∀ r ∈ rs, r.length = n ∧ ∀ x ∈ r, Bd b x) → n ≤ 1000 → rs.length ≤ 1000 → Bs b rs.length ≤ 990 → cf 19 [.tup (rs.map tsI)] S = .ok (.tup ((Qr.red rs).map tsI)) S)
    (h20 : ∀ (S : Sto) (b n : Nat), Dk b S → n ≤ 100 → b + 1000 ≤ 900000 → (cf 20 [.cell 1, .int n] S).wp fun t S' => RowsV 4 n 52 t ∧ Dk (b + 1000) S' ∧ Grow S S') :
    ∃ S', runD cf xLaw_k12 [.scr (ns.map Tv.int)] [] = .ok (.bl true) S' := by
  refine run_law rfl ?_
  show (exs cf Fu xLaw_k12.body [some (.scr (ns.map Tv.int)), none, none, none, none, none] []).wp _
  unfold xLaw_k12
  obtain ⟨c', e18, rd⟩ := h18
  rw [q_asg]
  (try simp only [List.cons_append, List.nil_append, w_var, t_var, w_int, w_str, w_bl, w_non, w_gl, w_bin, w_neg, t_cmp, w_cmp, t_chain, w_chain, t_isC, w_isC, w_isi, t_isi, t_bop1, t_bop, w_bop1, w_bop, t_nt, w_nt, w_ite, t_ite, w_nil, w_cons, a_tup, w_fz, w_mu, a_disp, a_comp, w_ofSeq, w_call, w_prim, w_ix, w_sl, w_rev, w_pop, w_popAt, w_app, e_nop, e_int, e_var, e_bin, i_seq, a_rng, rngA_int, a_rng2, rngB_int, a_zip, zipA_some, a_enum, enA_some, src_tsI, src_lsI, t_call, t_prim, tru_bl, opt_some, t_nop, List.getElem?_cons_zero, List.getElem?_cons_succ, setTg, setTgs, List.set_cons_zero, List.set_cons_succ, wp_ok, wipeE, len0, len1, len2, len3, len4, len5, len6, len7, len8, len9, len10, if_true, if_false, Bool.false_eq_true, eq_int, ne_int, gt_int, lt_int', le_int', ge_int', add_int, sub_int, abs_int, int_int, Option.map_some, src_lst, src_tup, ix_t0, ix_t1, ix_t2, ix_t3, ix_l0, ix_l1, ix_l2, is_non, and_true, true_and])
  refine wp_mono h6 ?_
  rintro t S ⟨rfl, d0⟩
  have x1 : cf 18 [.tup (exR.map tsI)] S = .ok (.tup (([[1, 2, 0], [0, -6, 1]] : List (List Int)).map tsI)) S := by
    rw [e18, ← exR_red]
    exact reduced_bd rd (n := 3) (b := 3) (by
      intro r hr
      simp only [exR, List.mem_cons, List.not_mem_nil, or_false] at hr
      rcases hr with rfl | rfl | rfl <;> refine ⟨rfl, ?_⟩ <;> intro x hx <;> simp only [List.mem_cons, List.not_mem_nil, or_false] at hx <;> rcases hx with rfl | rfl | rfl <;> exact (by unfold Bd; decide)) (by decide) (by decide) (by decide)
  have x2 : cf 18 [.tup []] S = .ok (.tup []) S := by
    rw [e18]
    exact reduced_bd rd (rs := []) (n := 3) (b := 3) (fun r hr => (List.not_mem_nil hr).elim) (by decide) (by decide) (by decide)
  have x1 : cf 18 [.tup [.tup [.int 2, .int 4, .int 0], .tup [.int 1, .int 2, .int 0], .tup [.int 3, .int 0, .int 1]]] S = .ok (.tup (([[1, 2, 0], [0, -6, 1]] : List (List Int)).map tsI)) S := x1
  have r1 : primV .repr S [.tup (([[1, 2, 0], [0, -6, 1]] : List (List Int)).map tsI)] = some (.str (Tv.shown (.tup ([[1, 2, 0], [0, -6, 1]].map tsI)))) := repr_rows (n := 3) (by
    intro r hr
    simp only [List.mem_cons, List.not_mem_nil, or_false] at hr
    rcases hr with rfl | rfl <;> refine ⟨by decide, ?_⟩ <;> intro x hx <;> simp only [List.mem_cons, List.not_mem_nil, or_false] at hx <;> rcases hx with rfl | rfl | rfl <;> exact Bd.mono (k := 3) (by unfold Bd; decide) (by decide)) (by decide)
  have c1 : cmpV .ne S (.str (Tv.shown (.tup ([[1, 2, 0], [0, -6, 1]].map tsI)))) (.str "((1, 2, 0), (0, -6, 1))") = some false := by
    show (some (Tv.shown (.tup ([[1, 2, 0], [0, -6, 1]].map tsI)) == ("((1, 2, 0), (0, -6, 1))" : PySem.Str))).map (!·) = _
    rw [exR_shown]
    rfl
  have c2 : cmpV .ne S (.tup []) (.tup []) = some false := by simp [cmpV, eqS, eqS0, thaw, Tv.dOk, Tv.dOks, Tv.eqb, Tv.eqbs]
  rw [kA_eq]
  (try simp only [List.cons_append, List.nil_append, w_var, t_var, w_int, w_str, w_bl, w_non, w_gl, w_bin, w_neg, t_cmp, w_cmp, t_chain, w_chain, t_isC, w_isC, w_isi, t_isi, t_bop1, t_bop, w_bop1, w_bop, t_nt, w_nt, w_ite, t_ite, w_nil, w_cons, a_tup, w_fz, w_mu, a_disp, a_comp, w_ofSeq, w_call, w_prim, w_ix, w_sl, w_rev, w_pop, w_popAt, w_app, e_nop, e_int, e_var, e_bin, i_seq, a_rng, rngA_int, a_rng2, rngB_int, a_zip, zipA_some, a_enum, enA_some, src_tsI, src_lsI, t_call, t_prim, tru_bl, opt_some, t_nop, List.getElem?_cons_zero, List.getElem?_cons_succ, setTg, setTgs, List.set_cons_zero, List.set_cons_succ, wp_ok, wipeE, len0, len1, len2, len3, len4, len5, len6, len7, len8, len9, len10, if_true, if_false, Bool.false_eq_true, eq_int, ne_int, gt_int, lt_int', le_int', ge_int', add_int, sub_int, abs_int, int_int, Option.map_some, src_lst, src_tup, ix_t0, ix_t1, ix_t2, ix_t3, ix_l0, ix_l1, ix_l2, is_non, and_true, true_and])
  rw [q_if]
  (try simp only [List.cons_append, List.nil_append, w_var, t_var, w_int, w_str, w_bl, w_non, w_gl, w_bin, w_neg, t_cmp, w_cmp, t_chain, w_chain, t_isC, w_isC, w_isi, t_isi, t_bop1, t_bop, w_bop1, w_bop, t_nt, w_nt, w_ite, t_ite, w_nil, w_cons, a_tup, w_fz, w_mu, a_disp, a_comp, w_ofSeq, w_call, w_prim, w_ix, w_sl, w_rev, w_pop, w_popAt, w_app, e_nop, e_int, e_var, e_bin, i_seq, a_rng, rngA_int, a_rng2, rngB_int, a_zip, zipA_some, a_enum, enA_some, src_tsI, src_lsI, t_call, t_prim, tru_bl, opt_some, t_nop, List.getElem?_cons_zero, List.getElem?_cons_succ, setTg, setTgs, List.set_cons_zero, List.set_cons_succ, wp_ok, wipeE, len0, len1, len2, len3, len4, len5, len6, len7, len8, len9, len10, if_true, if_false, Bool.false_eq_true, eq_int, ne_int, gt_int, lt_int', le_int', ge_int', add_int, sub_int, abs_int, int_int, Option.map_some, src_lst, src_tup, ix_t0, ix_t1, ix_t2, ix_t3, ix_l0, ix_l1, ix_l2, is_non, and_true, true_and, x1, r1, c1, x2, c2])
  rw [kI_f, List.nil_append]
  (try simp only [exs_nil, q_asg, kA_eq, kR_eq, q_drop, kD_eq, q_ret, q_if, kI_t, kI_f, q_set, kS_eq, q_pass, q_brk, q_cont, q_for, kF_eq, List.cons_append, List.nil_append, w_var, t_var, w_int, w_str, w_bl, w_non, w_gl, w_bin, w_neg, t_cmp, w_cmp, t_chain, w_chain, t_isC, w_isC, w_isi, t_isi, t_bop1, t_bop, w_bop1, w_bop, t_nt, w_nt, w_ite, t_ite, w_nil, w_cons, a_tup, w_fz, w_mu, a_disp, a_comp, w_ofSeq, w_call, w_prim, w_ix, w_sl, w_rev, w_pop, w_popAt, w_app, e_nop, e_int, e_var, e_bin, i_seq, a_rng, rngA_int, a_rng2, rngB_int, a_zip, zipA_some, a_enum, enA_some, src_tsI, src_lsI, t_call, t_prim, tru_bl, opt_some, t_nop, List.getElem?_cons_zero, List.getElem?_cons_succ, setTg, setTgs, List.set_cons_zero, List.set_cons_succ, wp_ok, wipeE, len0, len1, len2, len3, len4, len5, len6, len7, len8, len9, len10, if_true, if_false, Bool.false_eq_true, eq_int, ne_int, gt_int, lt_int', le_int', ge_int', add_int, sub_int, abs_int, int_int, Option.map_some, src_lst, src_tup, ix_t0, ix_t1, ix_t2, ix_t3, ix_l0, ix_l1, ix_l2, is_non, and_true, true_and])
  refine ⟨by decide, ?_⟩
  rw [rngT_map]
  refine for_on (fun dn r env S => Dk (1010 * dn.length) S ∧ dn.length + r.length = 10 ∧ ∃ j2 j3 j4 j5 : Option Tv, env = [some (.scr (ns.map Tv.int)), some (.cell 1), j2, j3, j4, j5]) (fun _ _ _ _ _ => rfl) ?_ ?_ ⟨d0, by decide, _, _, _, _, rfl⟩
  · rintro dn i r env S - ⟨d, hlen, j2, j3, j4, j5, rfl⟩
    simp only [List.length_cons] at hlen
    (try simp only [List.cons_append, List.nil_append, w_var, t_var, w_int, w_str, w_bl, w_non, w_gl, w_bin, w_neg, t_cmp, w_cmp, t_chain, w_chain, t_isC, w_isC, w_isi, t_isi, t_bop1, t_bop, w_bop1, w_bop, t_nt, w_nt, w_ite, t_ite, w_nil, w_cons, a_tup, w_fz, w_mu, a_disp, a_comp, w_ofSeq, w_call, w_prim, w_ix, w_sl, w_rev, w_pop, w_popAt, w_app, e_nop, e_int, e_var, e_bin, i_seq, a_rng, rngA_int, a_rng2, rngB_int, a_zip, zipA_some, a_enum, enA_some, src_tsI, src_lsI, t_call, t_prim, tru_bl, opt_some, t_nop, List.getElem?_cons_zero, List.getElem?_cons_succ, setTg, setTgs, List.set_cons_zero, List.set_cons_succ, wp_ok, wipeE, len0, len1, len2, len3, len4, len5, len6, len7, len8, len9, len10, if_true, if_false, Bool.false_eq_true, eq_int, ne_int, gt_int, lt_int', le_int', ge_int', add_int, sub_int, abs_int, int_int, Option.map_some, src_lst, src_tup, ix_t0, ix_t1, ix_t2, ix_t3, ix_l0, ix_l1, ix_l2, is_non, and_true, true_and])
    rw [q_asg]
    (try simp only [List.cons_append, List.nil_append, w_var, t_var, w_int, w_str, w_bl, w_non, w_gl, w_bin, w_neg, t_cmp, w_cmp, t_chain, w_chain, t_isC, w_isC, w_isi, t_isi, t_bop1, t_bop, w_bop1, w_bop, t_nt, w_nt, w_ite, t_ite, w_nil, w_cons, a_tup, w_fz, w_mu, a_disp, a_comp, w_ofSeq, w_call, w_prim, w_ix, w_sl, w_rev, w_pop, w_popAt, w_app, e_nop, e_int, e_var, e_bin, i_seq, a_rng, rngA_int, a_rng2, rngB_int, a_zip, zipA_some, a_enum, enA_some, src_tsI, src_lsI, t_call, t_prim, tru_bl, opt_some, t_nop, List.getElem?_cons_zero, List.getElem?_cons_succ, setTg, setTgs, List.set_cons_zero, List.set_cons_succ, wp_ok, wipeE, len0, len1, len2, len3, len4, len5, len6, len7, len8, len9, len10, if_true, if_false, Bool.false_eq_true, eq_int, ne_int, gt_int, lt_int', le_int', ge_int', add_int, sub_int, abs_int, int_int, Option.map_some, src_lst, src_tup, ix_t0, ix_t1, ix_t2, ix_t3, ix_l0, ix_l1, ix_l2, is_non, and_true, true_and])
    refine draw_wp h7 d (by omega) (by decide) (by decide) fun v S1 v0 v1 d1 g1 => ?_
    obtain ⟨v, rfl⟩ := Int.eq_ofNat_of_zero_le v0
    have ev1 : (1 : Int) + (v : Int) = ((v + 1 : Nat) : Int) := by omega
    (try simp only [List.cons_append, List.nil_append, w_var, t_var, w_int, w_str, w_bl, w_non, w_gl, w_bin, w_neg, t_cmp, w_cmp, t_chain, w_chain, t_isC, w_isC, w_isi, t_isi, t_bop1, t_bop, w_bop1, w_bop, t_nt, w_nt, w_ite, t_ite, w_nil, w_cons, a_tup, w_fz, w_mu, a_disp, a_comp, w_ofSeq, w_call, w_prim, w_ix, w_sl, w_rev, w_pop, w_popAt, w_app, e_nop, e_int, e_var, e_bin, i_seq, a_rng, rngA_int, a_rng2, rngB_int, a_zip, zipA_some, a_enum, enA_some, src_tsI, src_lsI, t_call, t_prim, tru_bl, opt_some, t_nop, List.getElem?_cons_zero, List.getElem?_cons_succ, setTg, setTgs, List.set_cons_zero, List.set_cons_succ, wp_ok, wipeE, len0, len1, len2, len3, len4, len5, len6, len7, len8, len9, len10, if_true, if_false, Bool.false_eq_true, eq_int, ne_int, gt_int, lt_int', le_int', ge_int', add_int, sub_int, abs_int, int_int, Option.map_some, src_lst, src_tup, ix_t0, ix_t1, ix_t2, ix_t3, ix_l0, ix_l1, ix_l2, is_non, and_true, true_and])
    rw [ev1]
    generalize hm : v + 1 = n
    refine wp_mono (h20 S1 _ n d1 (by omega) (by omega)) ?_
    rintro t S2 ⟨⟨rs, rfl, hrl, hrs⟩, d2, g2⟩
    have b52 : Bs 52 rs.length ≤ 847 := Nat.le_trans (Bs_mono 52 hrl) (by decide)
    have due := h19 S2 rs n 52 hrs (by omega) (by omega) (by omega)
    have got : cf 18 [.tup (rs.map tsI)] S2 = .ok (.tup ((Qr.red rs).map tsI)) S2 := by
      rw [e18]
      exact reduced_bd rd hrs (by omega) (by omega) (by omega)
    obtain ⟨rb, rl⟩ := red_bd (b := 52) (rs := rs) fun r hr => (hrs r hr).2
    have full := Qr.red_full (n := n) (rs := rs) fun r hr => (hrs r hr).1
    have again : cf 18 [.tup ((Qr.red rs).map tsI)] S2 = .ok (.tup ((Qr.red rs).map tsI)) S2 := by
      rw [e18]
      refine reduced_same rd full (c := 847) (fun r hr x hx => (rb r hr x hx).mono b52) (by omega) (by omega) ?_
      have : (Qr.red rs).length * (847 + 1) ≤ 4 * 848 := Nat.mul_le_mul (by omega) (by omega)
      omega
    have p1 : primV .repr S2 [.tup (rs.map tsI)] = some (.str (Tv.shown (.tup (rs.map tsI)))) := repr_rows (n := 4) (fun r hr => ⟨by rw [(hrs r hr).1]; omega, fun x hx => ((hrs r hr).2 x hx).mono (by omega)⟩) (by omega)
    have p2 : primV .repr S2 [.tup ((Qr.red rs).map tsI)] = some (.str (Tv.shown (.tup ((Qr.red rs).map tsI)))) := repr_rows (n := 4) (fun r hr => ⟨by rw [full.len r hr]; omega, fun x hx => (rb r hr x hx).mono (by omega)⟩) (by omega)
    (try simp only [exs_nil, q_asg, kA_eq, kR_eq, q_drop, kD_eq, q_ret, q_if, kI_t, kI_f, q_set, kS_eq, q_pass, q_brk, q_cont, q_for, kF_eq, List.cons_append, List.nil_append, w_var, t_var, w_int, w_str, w_bl, w_non, w_gl, w_bin, w_neg, t_cmp, w_cmp, t_chain, w_chain, t_isC, w_isC, w_isi, t_isi, t_bop1, t_bop, w_bop1, w_bop, t_nt, w_nt, w_ite, t_ite, w_nil, w_cons, a_tup, w_fz, w_mu, a_disp, a_comp, w_ofSeq, w_call, w_prim, w_ix, w_sl, w_rev, w_pop, w_popAt, w_app, e_nop, e_int, e_var, e_bin, i_seq, a_rng, rngA_int, a_rng2, rngB_int, a_zip, zipA_some, a_enum, enA_some, src_tsI, src_lsI, t_call, t_prim, tru_bl, opt_some, t_nop, List.getElem?_cons_zero, List.getElem?_cons_succ, setTg, setTgs, List.set_cons_zero, List.set_cons_succ, wp_ok, wipeE, len0, len1, len2, len3, len4, len5, len6, len7, len8, len9, len10, if_true, if_false, Bool.false_eq_true, eq_int, ne_int, gt_int, lt_int', le_int', ge_int', add_int, sub_int, abs_int, int_int, Option.map_some, src_lst, src_tup, ix_t0, ix_t1, ix_t2, ix_t3, ix_l0, ix_l1, ix_l2, is_non, and_true, true_and, due, got, again, p1, p2, ne_str])
    refine ⟨d2.mono (by rw [List.length_append, List.length_singleton]; omega), by rw [List.length_append, List.length_singleton]; omega, _, _, _, _, rfl⟩
  · rintro env S ⟨d, hlen, j2, j3, j4, j5, rfl⟩
    (try simp only [exs_nil, q_asg, kA_eq, kR_eq, q_drop, kD_eq, q_ret, q_if, kI_t, kI_f, q_set, kS_eq, q_pass, q_brk, q_cont, q_for, kF_eq, List.cons_append, List.nil_append, w_var, t_var, w_int, w_str, w_bl, w_non, w_gl, w_bin, w_neg, t_cmp, w_cmp, t_chain, w_chain, t_isC, w_isC, w_isi, t_isi, t_bop1, t_bop, w_bop1, w_bop, t_nt, w_nt, w_ite, t_ite, w_nil, w_cons, a_tup, w_fz, w_mu, a_disp, a_comp, w_ofSeq, w_call, w_prim, w_ix, w_sl, w_rev, w_pop, w_popAt, w_app, e_nop, e_int, e_var, e_bin, i_seq, a_rng, rngA_int, a_rng2, rngB_int, a_zip, zipA_some, a_enum, enA_some, src_tsI, src_lsI, t_call, t_prim, tru_bl, opt_some, t_nop, List.getElem?_cons_zero, List.getElem?_cons_succ, setTg, setTgs, List.set_cons_zero, List.set_cons_succ, wp_ok, wipeE, len0, len1, len2, len3, len4, len5, len6, len7, len8, len9, len10, if_true, if_false, Bool.false_eq_true, eq_int, ne_int, gt_int, lt_int', le_int', ge_int', add_int, sub_int, abs_int, int_int, Option.map_some, src_lst, src_tup, ix_t0, ix_t1, ix_t2, ix_t3, ix_l0, ix_l1, ix_l2, is_non, and_true, true_and])
end Mp
namespace Mp
/-! ### the tables' entries, joined -/
theorem deck_dk {cf c : Nat → List Tv → M Tv} {ns : List Int} (h : cf 6 = runD c xDeck) (hl : ns.length ≤ 63) : (cf 6 [.scr (ns.map Tv.int)] []).wp fun t S => t = .cell 1 ∧ Dk 0 S := by
  rw [h]
  exact wp_mono (deck_ok hl) fun t S h => ⟨h.1, h.2.1⟩
theorem rowDefs_of {cf c4 c15 c1 c17 c16 c14 : Nat → List Tv → M Tv} (h4 : cf 4 = runD c4 xIsZero) (h15 : cf 15 = runD c15 (xLowest 1)) (h151 : c15 1 = runD c1 xDivisor) (h17 : cf 17 = runD c17 xCleared) (h1716 : c17 16 = runD c16 xFirstPlace) (h1714 : c17 14 = runD c14 xPlus) : RowDefs cf where
  zero := fun S ns hl => by rw [h4]; exact isZero_isZ hl
  low := fun S ns k hb hk hl => by
    rw [h15]
    exact lowest_bd (k := k) (.inl rfl) (fun S => by rw [h151]; exact divisor_bd hb (by omega)) hb hk hl
  clear := fun S rows R w r b c n hs hw hr hR hl hl0 hn hb => by
    rw [h17]
    exact (cleared_bd (fun S r hz hl => by rw [h1716]; exact firstPlace_ok hz hl) (fun S a b t k l hk hb hs hl => by rw [h1714]; exact plus_bd hk hb hs hl) hs hw hr hR hl hl0 hn hb).1
theorem lawReduced_of {cf c19 c11 c10 : Nat → List Tv → M Tv} (h19 : cf 19 = runD c19 xLawReduced) (h11 : c19 11 = runD c11 (xLowest 10)) (h10 : c11 10 = runD c10 xLawDivisor) (S : Sto) (rs : List (List Int)) (n b : Nat) (hr : ∀ r ∈ rs, r.length = n ∧ ∀ x ∈ r, Bd b x) (hn : n ≤ 1000) (hl : rs.length ≤ 1000) (hb : Bs b rs.length ≤ 990) :
    cf 19 [.tup (rs.map tsI)] S = .ok (.tup ((Qr.red rs).map tsI)) S := by
  rw [h19]
  refine lawReduced_bd (fun S ns k hb hk hl => ?_) hr hn hl hb
  rw [h11]
  exact lowest_bd (k := k) (.inr rfl) (fun S => by rw [h10]; exact lawDivisor_bd rfl hb hk) hb (by omega) hl
end Mp
namespace Mp
def xLawSign : Df := ⟨6, 2,
  [
    .forS (.v 2) (.seq (.var 0))
      [
        .asg (.v 3) (.prim .sum [(.fz (.comp [4, 5] (.bin .mul (.var 4) (.var 5)) (.tup [(.v 4), (.v 5)]) (.zip (.var 2) (.var 1)) .nop))]),
        .ifS (.cmp .ne (.var 3) (.int 0))
          [
            .ret (.ite (.cmp .gt (.var 3) (.int 0)) (.int 1) (.neg (.int 1)))]
          []],
    .ret (.int 0)]⟩
def xLawChanges : Df := ⟨10, 3,
  [
    .asg (.v 3) (.mu (.comp [6] (.prim .tuple [(.fz (.comp [9] (.bin .sub (.call 7 [(.var 0), (.int 9)]) (.int 4)) (.v 9) (.rng (.var 2)) .nop))]) (.v 6) (.rng (.int 4)) .nop)),
    .drop (.app (.var 3) (.prim .tuple [(.fz (.comp [9] (.bin .sub (.call 7 [(.var 0), (.bin .pow (.int 10) (.int 9))]) (.bin .mul (.int 5) (.bin .pow (.int 10) (.int 8)))) (.v 9) (.rng (.var 2)) .nop))])),
    .forS (.v 4) (.seq (.var 1))
      [
        .asg (.tup [(.v 7), (.v 8)]) (.tup [(.call 7 [(.var 0), (.var 2)]), (.call 7 [(.var 0), (.var 2)])]),
        .asg (.v 5) (.mu (.comp [9] (.int 0) (.v 9) (.rng (.var 2)) .nop)),
        .setIx (.var 5) (.var 7) (.bin .add (.ix (.var 5) (.var 7)) (.ix (.var 4) (.var 8))),
        .setIx (.var 5) (.var 8) (.bin .sub (.ix (.var 5) (.var 8)) (.ix (.var 4) (.var 7))),
        .drop (.app (.var 3) (.prim .tuple [(.var 5)]))],
    .ret (.var 3)]⟩
def xLaw_k13 : Df := ⟨11, 1,
  [
    .asg (.v 1) (.call 6 [(.var 0)]),
    .forS (.v 2) (.rng (.int 8))
      [
        .asg (.v 3) (.bin .add (.int 1) (.call 7 [(.var 1), (.int 4)])),
        .asg (.v 4) (.prim .tuple [(.fz (.comp [8] (.call 9 [(.var 1), (.var 3)]) (.v 8) (.rng (.call 7 [(.var 1), (.int 4)])) .nop))]),
        .ifS (.bop true [(.cmp .ne (.var 4) (.tup [])), (.cmp .eq (.call 7 [(.var 1), (.int 2)]) (.int 0))])
          [
            .asg (.v 7) (.prim .tuple [(.fz (.comp [9, 10] (.bin .add (.var 9) (.bin .mul (.int 2) (.var 10))) (.tup [(.v 9), (.v 10)]) (.zip (.ix (.var 4) (.int 0)) (.ix (.var 4) (.neg (.int 1)))) .nop))]),
            .asg (.v 4) (.bin .add (.var 4) (.tup [(.var 7)]))]
          [],
        .asg (.v 5) (.call 18 [(.var 4)]),
        .forS (.v 6) (.seq (.call 23 [(.var 1), (.bin .add (.var 4) (.var 5)), (.var 3)]))
          [
            .ifS (.cmp .ne (.call 22 [(.var 4), (.var 6)]) (.call 22 [(.var 5), (.var 6)]))
              [
                .ret (.bl false)]
              []]],
    .ret (.bl true)]⟩
/-! ### signs -/
theorem intsOf_map : ∀ ns : List Int, intsOf (ns.map Tv.int) = some ns
  | [] => rfl
  | n :: ns => by rw [List.map_cons, intsOf, intsOf_map ns]; rfl
theorem sum_ints {S : Sto} {ns : List Int} : primV .sum S [.lst (ns.map Tv.int)] = some (.int ns.sum) := by
  simp only [primV, seqOf, Option.bind_some, intsOf_map, Option.map_some]
theorem sum_dot : ∀ (r v : List Int), ((r.zip v).map fun p => p.1 * p.2).sum = Qr.dot r v
  | [], v => by cases v <;> rfl
  | x :: r, [] => rfl
  | x :: r, y :: v => by
    rw [List.zip_cons_cons, List.map_cons, List.sum_cons, sum_dot r v]
    rfl
theorem sign_bd {cf : Nat → List Tv → M Tv} {S : Sto} {R : List (List Int)} {v : List Int} {a b : Nat} (hR : ∀ r ∈ R, r.length ≤ 1000 ∧ ∀ x ∈ r, Bd a x) (hv : ∀ x ∈ v, Bd b x) (hs : a + b ≤ 900000) : runD cf xLawSign [.tup (R.map tsI), tsI v] S = .ok (.int (Qr.lex v R)) S := by
  refine run_eq rfl ?_
  show (exs cf Fu xLawSign.body [some (.tup (R.map tsI)), some (tsI v), none, none, none, none] S).wp _
  unfold xLawSign
  (try simp only [exs_nil, q_asg, kA_eq, kR_eq, q_drop, kD_eq, q_ret, q_if, kI_t, kI_f, q_set, kS_eq, q_pass, q_brk, q_cont, q_for, kF_eq, List.cons_append, List.nil_append, w_var, t_var, w_int, w_str, w_bl, w_non, w_gl, w_bin, w_neg, t_cmp, w_cmp, t_chain, w_chain, t_isC, w_isC, w_isi, t_isi, t_bop1, t_bop, w_bop1, w_bop, t_nt, w_nt, w_ite, t_ite, w_nil, w_cons, a_tup, w_fz, w_mu, a_disp, a_comp, w_ofSeq, w_call, w_prim, w_ix, w_sl, w_rev, w_pop, w_popAt, w_app, e_nop, e_int, e_var, e_bin, i_seq, a_rng, rngA_int, a_rng2, rngB_int, a_zip, zipA_some, a_enum, enA_some, src_tsI, src_lsI, t_call, t_prim, tru_bl, opt_some, t_nop, List.getElem?_cons_zero, List.getElem?_cons_succ, setTg, setTgs, List.set_cons_zero, List.set_cons_succ, wp_ok, wipeE, len0, len1, len2, len3, len4, len5, len6, len7, len8, len9, len10, if_true, if_false, Bool.false_eq_true, eq_int, ne_int, gt_int, lt_int', le_int', ge_int', add_int, sub_int, abs_int, int_int, Option.map_some, src_lst, src_tup, ix_t0, ix_t1, ix_t2, ix_t3, ix_l0, ix_l1, ix_l2, is_non, and_true, true_and])
  refine for_on (fun dn r env S' => S' = S ∧ ∃ j2 j3 j4 j5 : Option Tv, env = [some (.tup (R.map tsI)), some (tsI v), j2, j3, j4, j5] ∧ Qr.lex v r = Qr.lex v R) (fun _ _ _ _ _ => rfl) ?_ ?_ ⟨rfl, _, _, _, _, rfl, rfl⟩
  · rintro dn o r env S' hx ⟨rfl, j2, j3, j4, j5, rfl, hl⟩
    obtain ⟨ol, ob⟩ := hR o (by rw [hx]; simp)
    have l1 : (((o.zip v).map pr).length ≤ lim) = True := len_map (by rw [List.length_zip]; omega)
    (try simp only [List.cons_append, List.nil_append, w_var, t_var, w_int, w_str, w_bl, w_non, w_gl, w_bin, w_neg, t_cmp, w_cmp, t_chain, w_chain, t_isC, w_isC, w_isi, t_isi, t_bop1, t_bop, w_bop1, w_bop, t_nt, w_nt, w_ite, t_ite, w_nil, w_cons, a_tup, w_fz, w_mu, a_disp, a_comp, w_ofSeq, w_call, w_prim, w_ix, w_sl, w_rev, w_pop, w_popAt, w_app, e_nop, e_int, e_var, e_bin, i_seq, a_rng, rngA_int, a_rng2, rngB_int, a_zip, zipA_some, a_enum, enA_some, src_tsI, src_lsI, t_call, t_prim, tru_bl, opt_some, t_nop, List.getElem?_cons_zero, List.getElem?_cons_succ, setTg, setTgs, List.set_cons_zero, List.set_cons_succ, wp_ok, wipeE, len0, len1, len2, len3, len4, len5, len6, len7, len8, len9, len10, if_true, if_false, Bool.false_eq_true, eq_int, ne_int, gt_int, lt_int', le_int', ge_int', add_int, sub_int, abs_int, int_int, Option.map_some, src_lst, src_tup, ix_t0, ix_t1, ix_t2, ix_t3, ix_l0, ix_l1, ix_l2, is_non, and_true, true_and])
    rw [q_asg]
    (try simp only [List.cons_append, List.nil_append, w_var, t_var, w_int, w_str, w_bl, w_non, w_gl, w_bin, w_neg, t_cmp, w_cmp, t_chain, w_chain, t_isC, w_isC, w_isi, t_isi, t_bop1, t_bop, w_bop1, w_bop, t_nt, w_nt, w_ite, t_ite, w_nil, w_cons, a_tup, w_fz, w_mu, a_disp, a_comp, w_ofSeq, w_call, w_prim, w_ix, w_sl, w_rev, w_pop, w_popAt, w_app, e_nop, e_int, e_var, e_bin, i_seq, a_rng, rngA_int, a_rng2, rngB_int, a_zip, zipA_some, a_enum, enA_some, src_tsI, src_lsI, t_call, t_prim, tru_bl, opt_some, t_nop, List.getElem?_cons_zero, List.getElem?_cons_succ, setTg, setTgs, List.set_cons_zero, List.set_cons_succ, wp_ok, wipeE, len0, len1, len2, len3, len4, len5, len6, len7, len8, len9, len10, if_true, if_false, Bool.false_eq_true, eq_int, ne_int, gt_int, lt_int', le_int', ge_int', add_int, sub_int, abs_int, int_int, Option.map_some, src_lst, src_tup, ix_t0, ix_t1, ix_t2, ix_t3, ix_l0, ix_l1, ix_l2, is_non, and_true, true_and, zipT_pr, l1])
    rw [comp_all (fun p : Int × Int => Tv.int (p.1 * p.2)) rfl (fun p hp => by
      have m1 : ∀ S, binV .mul S (.int p.1) (.int p.2) = some (.int (p.1 * p.2)) := fun S => mul_bd (ob _ (List.of_mem_zip hp).1) (hv _ (List.of_mem_zip hp).2) hs
      (try simp only [exs_nil, q_asg, kA_eq, kR_eq, q_drop, kD_eq, q_ret, q_if, kI_t, kI_f, q_set, kS_eq, q_pass, q_brk, q_cont, q_for, kF_eq, List.cons_append, List.nil_append, w_var, t_var, w_int, w_str, w_bl, w_non, w_gl, w_bin, w_neg, t_cmp, w_cmp, t_chain, w_chain, t_isC, w_isC, w_isi, t_isi, t_bop1, t_bop, w_bop1, w_bop, t_nt, w_nt, w_ite, t_ite, w_nil, w_cons, a_tup, w_fz, w_mu, a_disp, a_comp, w_ofSeq, w_call, w_prim, w_ix, w_sl, w_rev, w_pop, w_popAt, w_app, e_nop, e_int, e_var, e_bin, i_seq, a_rng, rngA_int, a_rng2, rngB_int, a_zip, zipA_some, a_enum, enA_some, src_tsI, src_lsI, t_call, t_prim, tru_bl, opt_some, t_nop, List.getElem?_cons_zero, List.getElem?_cons_succ, setTg, setTgs, List.set_cons_zero, List.set_cons_succ, wp_ok, wipeE, len0, len1, len2, len3, len4, len5, len6, len7, len8, len9, len10, if_true, if_false, Bool.false_eq_true, eq_int, ne_int, gt_int, lt_int', le_int', ge_int', add_int, sub_int, abs_int, int_int, Option.map_some, src_lst, src_tup, ix_t0, ix_t1, ix_t2, ix_t3, ix_l0, ix_l1, ix_l2, is_non, and_true, true_and, pr, m1]))]
    have e : ((o.zip v).map fun p : Int × Int => Tv.int (p.1 * p.2)) = ((o.zip v).map fun p : Int × Int => p.1 * p.2).map Tv.int := by rw [List.map_map]; rfl
    rw [e]
    (try simp only [List.cons_append, List.nil_append, w_var, t_var, w_int, w_str, w_bl, w_non, w_gl, w_bin, w_neg, t_cmp, w_cmp, t_chain, w_chain, t_isC, w_isC, w_isi, t_isi, t_bop1, t_bop, w_bop1, w_bop, t_nt, w_nt, w_ite, t_ite, w_nil, w_cons, a_tup, w_fz, w_mu, a_disp, a_comp, w_ofSeq, w_call, w_prim, w_ix, w_sl, w_rev, w_pop, w_popAt, w_app, e_nop, e_int, e_var, e_bin, i_seq, a_rng, rngA_int, a_rng2, rngB_int, a_zip, zipA_some, a_enum, enA_some, src_tsI, src_lsI, t_call, t_prim, tru_bl, opt_some, t_nop, List.getElem?_cons_zero, List.getElem?_cons_succ, setTg, setTgs, List.set_cons_zero, List.set_cons_succ, wp_ok, wipeE, len0, len1, len2, len3, len4, len5, len6, len7, len8, len9, len10, if_true, if_false, Bool.false_eq_true, eq_int, ne_int, gt_int, lt_int', le_int', ge_int', add_int, sub_int, abs_int, int_int, Option.map_some, src_lst, src_tup, ix_t0, ix_t1, ix_t2, ix_t3, ix_l0, ix_l1, ix_l2, is_non, and_true, true_and, sum_ints, sum_dot])
    rw [kA_eq]
    (try simp only [List.cons_append, List.nil_append, w_var, t_var, w_int, w_str, w_bl, w_non, w_gl, w_bin, w_neg, t_cmp, w_cmp, t_chain, w_chain, t_isC, w_isC, w_isi, t_isi, t_bop1, t_bop, w_bop1, w_bop, t_nt, w_nt, w_ite, t_ite, w_nil, w_cons, a_tup, w_fz, w_mu, a_disp, a_comp, w_ofSeq, w_call, w_prim, w_ix, w_sl, w_rev, w_pop, w_popAt, w_app, e_nop, e_int, e_var, e_bin, i_seq, a_rng, rngA_int, a_rng2, rngB_int, a_zip, zipA_some, a_enum, enA_some, src_tsI, src_lsI, t_call, t_prim, tru_bl, opt_some, t_nop, List.getElem?_cons_zero, List.getElem?_cons_succ, setTg, setTgs, List.set_cons_zero, List.set_cons_succ, wp_ok, wipeE, len0, len1, len2, len3, len4, len5, len6, len7, len8, len9, len10, if_true, if_false, Bool.false_eq_true, eq_int, ne_int, gt_int, lt_int', le_int', ge_int', add_int, sub_int, abs_int, int_int, Option.map_some, src_lst, src_tup, ix_t0, ix_t1, ix_t2, ix_t3, ix_l0, ix_l1, ix_l2, is_non, and_true, true_and])
    rw [q_if]
    (try simp only [List.cons_append, List.nil_append, w_var, t_var, w_int, w_str, w_bl, w_non, w_gl, w_bin, w_neg, t_cmp, w_cmp, t_chain, w_chain, t_isC, w_isC, w_isi, t_isi, t_bop1, t_bop, w_bop1, w_bop, t_nt, w_nt, w_ite, t_ite, w_nil, w_cons, a_tup, w_fz, w_mu, a_disp, a_comp, w_ofSeq, w_call, w_prim, w_ix, w_sl, w_rev, w_pop, w_popAt, w_app, e_nop, e_int, e_var, e_bin, i_seq, a_rng, rngA_int, a_rng2, rngB_int, a_zip, zipA_some, a_enum, enA_some, src_tsI, src_lsI, t_call, t_prim, tru_bl, opt_some, t_nop, List.getElem?_cons_zero, List.getElem?_cons_succ, setTg, setTgs, List.set_cons_zero, List.set_cons_succ, wp_ok, wipeE, len0, len1, len2, len3, len4, len5, len6, len7, len8, len9, len10, if_true, if_false, Bool.false_eq_true, eq_int, ne_int, gt_int, lt_int', le_int', ge_int', add_int, sub_int, abs_int, int_int, Option.map_some, src_lst, src_tup, ix_t0, ix_t1, ix_t2, ix_t3, ix_l0, ix_l1, ix_l2, is_non, and_true, true_and])
    by_cases h0 : Qr.dot o v = 0
    · rw [show (!(Qr.dot o v == 0)) = false by simp [h0], kI_f]
      (try simp only [exs_nil, q_asg, kA_eq, kR_eq, q_drop, kD_eq, q_ret, q_if, kI_t, kI_f, q_set, kS_eq, q_pass, q_brk, q_cont, q_for, kF_eq, List.cons_append, List.nil_append, w_var, t_var, w_int, w_str, w_bl, w_non, w_gl, w_bin, w_neg, t_cmp, w_cmp, t_chain, w_chain, t_isC, w_isC, w_isi, t_isi, t_bop1, t_bop, w_bop1, w_bop, t_nt, w_nt, w_ite, t_ite, w_nil, w_cons, a_tup, w_fz, w_mu, a_disp, a_comp, w_ofSeq, w_call, w_prim, w_ix, w_sl, w_rev, w_pop, w_popAt, w_app, e_nop, e_int, e_var, e_bin, i_seq, a_rng, rngA_int, a_rng2, rngB_int, a_zip, zipA_some, a_enum, enA_some, src_tsI, src_lsI, t_call, t_prim, tru_bl, opt_some, t_nop, List.getElem?_cons_zero, List.getElem?_cons_succ, setTg, setTgs, List.set_cons_zero, List.set_cons_succ, wp_ok, wipeE, len0, len1, len2, len3, len4, len5, len6, len7, len8, len9, len10, if_true, if_false, Bool.false_eq_true, eq_int, ne_int, gt_int, lt_int', le_int', ge_int', add_int, sub_int, abs_int, int_int, Option.map_some, src_lst, src_tup, ix_t0, ix_t1, ix_t2, ix_t3, ix_l0, ix_l1, ix_l2, is_non, and_true, true_and])
      refine ⟨_, _, _, _, rfl, ?_⟩
      rw [← hl]
      simp only [Qr.lex]
      rw [if_pos h0]
    · rw [show (!(Qr.dot o v == 0)) = true by simp [h0], kI_t]
      (try simp only [exs_nil, q_asg, kA_eq, kR_eq, q_drop, kD_eq, q_ret, q_if, kI_t, kI_f, q_set, kS_eq, q_pass, q_brk, q_cont, q_for, kF_eq, List.cons_append, List.nil_append, w_var, t_var, w_int, w_str, w_bl, w_non, w_gl, w_bin, w_neg, t_cmp, w_cmp, t_chain, w_chain, t_isC, w_isC, w_isi, t_isi, t_bop1, t_bop, w_bop1, w_bop, t_nt, w_nt, w_ite, t_ite, w_nil, w_cons, a_tup, w_fz, w_mu, a_disp, a_comp, w_ofSeq, w_call, w_prim, w_ix, w_sl, w_rev, w_pop, w_popAt, w_app, e_nop, e_int, e_var, e_bin, i_seq, a_rng, rngA_int, a_rng2, rngB_int, a_zip, zipA_some, a_enum, enA_some, src_tsI, src_lsI, t_call, t_prim, tru_bl, opt_some, t_nop, List.getElem?_cons_zero, List.getElem?_cons_succ, setTg, setTgs, List.set_cons_zero, List.set_cons_succ, wp_ok, wipeE, len0, len1, len2, len3, len4, len5, len6, len7, len8, len9, len10, if_true, if_false, Bool.false_eq_true, eq_int, ne_int, gt_int, lt_int', le_int', ge_int', add_int, sub_int, abs_int, int_int, Option.map_some, src_lst, src_tup, ix_t0, ix_t1, ix_t2, ix_t3, ix_l0, ix_l1, ix_l2, is_non, and_true, true_and])
      have e2 : Qr.lex v R = (Qr.dot o v).sign := by
        rw [← hl]
        simp only [Qr.lex]
        rw [if_neg h0]
      rw [e2]
      by_cases h1 : 0 < Qr.dot o v
      · rw [if_pos (decide_eq_true h1), Int.sign_eq_one_of_pos h1]
      · rw [if_neg (by simpa using h1), Int.sign_eq_neg_one_of_neg (by omega)]
  · rintro env S' ⟨rfl, j2, j3, j4, j5, rfl, hl⟩
    (try simp only [exs_nil, q_asg, kA_eq, kR_eq, q_drop, kD_eq, q_ret, q_if, kI_t, kI_f, q_set, kS_eq, q_pass, q_brk, q_cont, q_for, kF_eq, List.cons_append, List.nil_append, w_var, t_var, w_int, w_str, w_bl, w_non, w_gl, w_bin, w_neg, t_cmp, w_cmp, t_chain, w_chain, t_isC, w_isC, w_isi, t_isi, t_bop1, t_bop, w_bop1, w_bop, t_nt, w_nt, w_ite, t_ite, w_nil, w_cons, a_tup, w_fz, w_mu, a_disp, a_comp, w_ofSeq, w_call, w_prim, w_ix, w_sl, w_rev, w_pop, w_popAt, w_app, e_nop, e_int, e_var, e_bin, i_seq, a_rng, rngA_int, a_rng2, rngB_int, a_zip, zipA_some, a_enum, enA_some, src_tsI, src_lsI, t_call, t_prim, tru_bl, opt_some, t_nop, List.getElem?_cons_zero, List.getElem?_cons_succ, setTg, setTgs, List.set_cons_zero, List.set_cons_succ, wp_ok, wipeE, len0, len1, len2, len3, len4, len5, len6, len7, len8, len9, len10, if_true, if_false, Bool.false_eq_true, eq_int, ne_int, gt_int, lt_int', le_int', ge_int', add_int, sub_int, abs_int, int_int, Option.map_some, src_lst, src_tup, ix_t0, ix_t1, ix_t2, ix_t3, ix_l0, ix_l1, ix_l2, is_non, and_true, true_and])
    rw [← hl]
    rfl
/-! ### changes -/
/-- a def that hands back a list of its own -/
theorem run_cell {cf : Nat → List Tv → M Tv} {d : Df} {as : List Tv} {S : Sto} {Q : Tv → Sto → Prop} (hl : as.length = d.k)
    (h : (exs cf Fu d.body (as.map some ++ List.replicate (d.n - d.k) none) S).wp { nx := fun _ _ => False, rt := fun t S' => (∃ n, t = .cell n) ∧ Q t S' }) : (runD cf d as S).wp Q := by
  refine run_wp hl (sr_mono h (fun _ _ q => q.elim) (fun t S' q => ?_) (fun _ _ q => q) fun _ _ q => q)
  obtain ⟨⟨n, rfl⟩, q⟩ := q
  show if S'.take S.length = S ∧ Tv.noCell (.cell n) = true then _ else _
  rw [if_neg (fun z => by cases z.2)]
  exact q
theorem pow9 {S : Sto} : binV .pow S (.int 10) (.int 9) = some (.int 1000000000) := rfl
theorem pow8 {S : Sto} : binV .pow S (.int 10) (.int 8) = some (.int 100000000) := rfl
theorem at_set {r : List Int} {p q : Nat} {x : Int} (hp : p < r.length) : Qr.at' (r.set p x) q = if p = q then x else Qr.at' r q := by
  unfold Qr.at'
  rw [List.getD_eq_getElem?_getD, List.getD_eq_getElem?_getD, List.getElem?_set]
  split
  · rename_i h
    subst h
    simp [hp]
  · rfl
theorem ixN_at {n j : Nat} (hj : j < n) : L2.ixN n (j : Int) = some j := by
  unfold L2.ixN
  rw [if_pos (by omega), if_pos (by omega)]
  simp
theorem mem_set' {r : List Int} {p : Nat} {x y : Int} (h : y ∈ r.set p x) : y = x ∨ y ∈ r := by
  rcases List.mem_or_eq_of_mem_set h with k | k
  · exact .inr k
  · exact .inl k
theorem ix_cell {S : Sto} {n : Nat} {r : List Int} {p : Nat} (h : S[n]? = some (.lst (r.map Tv.int))) (hp : p < r.length) : ixV S (.cell n) (.int p) = some (.int (Qr.at' r p)) := by
  rw [ix_lst h]
  refine L2.atI_nat ?_
  unfold Qr.at'
  rw [List.getElem?_map, List.getD_eq_getElem?_getD, List.getElem?_eq_getElem hp]
  rfl
theorem set_cell {S : Sto} {n : Nat} {r : List Int} {p : Nat} {x : Int} (h : S[n]? = some (.lst (r.map Tv.int))) (hp : p < r.length) : setAt (.cell n) (.int p) (.int x) S = some (S.set n (.lst ((r.set p x).map Tv.int))) := by
  rw [setAt_lst (k := p) h (ixN_at (by rw [List.length_map]; exact hp)), List.map_set]
/-- a list of rows in the store -/
def Chg (n k m : Nat) (S S' : Sto) (t : Tv) : Prop := ∃ (q : Nat) (cs : List (List Int)), t = .cell q ∧ S'[q]? = some (.lst (cs.map tsI)) ∧ cs.length ≤ m ∧ ∀ c ∈ cs, c.length = n ∧ ∀ x ∈ c, Bd k x
theorem drawn_ints {cf c1 : Nat → List Tv → M Tv} (h7 : cf 7 = runD c1 xDraw) {m : Nat} {env : Env} {S : Sto} {b n : Nat} (d : Dk b S) (hm : 1 ≤ m) (hm2 : m ≤ 1000000000000) (hn : n ≤ 1000) (hb : b + n ≤ 900000) {elt : Env → M Tv} {i : Nat}
    (he : ∀ (t : Tv) (S : Sto) (b : Nat), b + 1 ≤ 900000 → Dk b S → (elt (env.set i (some t)) S).wp fun y S' => (∃ z : Int, y = .int z ∧ z.natAbs ≤ m) ∧ Dk (b + 1) S' ∧ Grow S S') {QL : List Tv → Sto → Prop}
    (q : ∀ (ns : List Int) (S' : Sto), ns.length = n → (∀ x ∈ ns, x.natAbs ≤ m) → Dk (b + n) S' → Grow S S' → QL (ns.map Tv.int) S') : (compL [] (.v i) env (ev cf .nop).t elt (rngT 0 n) S).wp QL := by
  refine comp_drawn (b := b) (k := 1) (fun _ y => ∃ z : Int, y = .int z ∧ z.natAbs ≤ m) (by rw [rngT_len']; omega) d ?_ ?_
  · intro t ht b' S' hb' d' g'
    simp only [setTg]
    exact he t S' b' hb' d'
  · intro ys S' hl hV d' g'
    obtain ⟨ns, rfl, h1, h2⟩ := comp_ints (n := n) hl rngT_len' hV
    rw [rngT_len', Nat.one_mul] at d'
    exact q ns S' h1 h2 d' g'
theorem rows_in {ys : List Tv} {P : List Int → Prop} (h : ∀ y ∈ ys, ∃ c : List Int, y = tsI c ∧ P c) : ∃ cs : List (List Int), ys = cs.map tsI ∧ ∀ c ∈ cs, P c := by
  induction ys with
  | nil => exact ⟨[], rfl, fun c hc => (List.not_mem_nil hc).elim⟩
  | cons y ys ih =>
    obtain ⟨c, rfl, hc⟩ := h y List.mem_cons_self
    obtain ⟨cs, rfl, hcs⟩ := ih fun y hy => h y (List.mem_cons_of_mem _ hy)
    exact ⟨c :: cs, rfl, fun u hu => by
      rcases List.mem_cons.mp hu with e | e
      · rw [e]; exact hc
      · exact hcs u e⟩
theorem zeros_ok {cf : Nat → List Tv → M Tv} {env : Env} {S : Sto} {n i : Nat} (hw : stays [] S = true) : compL [] (.v i) env (ev cf .nop).t (ev cf (.int 0)).v (rngT 0 n) S = .ok ((List.replicate n (0 : Int)).map Tv.int) S := by
  rw [rngT_map, comp_all (fun _ => Tv.int 0) hw (fun x _ => by simp only [setTg]; rw [w_int]; exact ⟨rfl, rfl⟩)]
  congr 1
  rw [List.map_replicate, List.eq_replicate_iff]
  refine ⟨by simp, fun b hb => ?_⟩
  obtain ⟨_, _, rfl⟩ := List.mem_map.mp hb
  rfl
theorem changes_ok {cf c1 : Nat → List Tv → M Tv} (h7 : cf 7 = runD c1 xDraw) {S : Sto} {b n k : Nat} {R : List (List Int)} (d : Dk b S) (hn : 1 ≤ n ∧ n ≤ 10) (hR : ∀ r ∈ R, r.length = n ∧ ∀ x ∈ r, Bd k x) (hk : 40 ≤ k) (hl : R.length ≤ 100) (hb : b + 1000 ≤ 900000) :
    (runD cf xLawChanges [.cell 1, .tup (R.map tsI), .int n] S).wp fun t S' => Chg n (k + 2) 200 S S' t ∧ Dk (b + 1000) S' ∧ Grow S S' := by
  refine run_cell rfl ?_
  show (exs cf Fu xLawChanges.body [some (.cell 1), some (.tup (R.map tsI)), some (.int n), none, none, none, none, none, none, none] S).wp _
  unfold xLawChanges
  have hn2 : ((n : Nat) : Int).toNat = n := by omega
  have hL := d.two
  rw [q_asg]
  (try simp only [List.cons_append, List.nil_append, w_var, t_var, w_int, w_str, w_bl, w_non, w_gl, w_bin, w_neg, t_cmp, w_cmp, t_chain, w_chain, t_isC, w_isC, w_isi, t_isi, t_bop1, t_bop, w_bop1, w_bop, t_nt, w_nt, w_ite, t_ite, w_nil, w_cons, a_tup, w_fz, w_mu, a_disp, a_comp, w_ofSeq, w_call, w_prim, w_ix, w_sl, w_rev, w_pop, w_popAt, w_app, e_nop, e_int, e_var, e_bin, i_seq, a_rng, rngA_int, a_rng2, rngB_int, a_zip, zipA_some, a_enum, enA_some, src_tsI, src_lsI, t_call, t_prim, tru_bl, opt_some, t_nop, List.getElem?_cons_zero, List.getElem?_cons_succ, setTg, setTgs, List.set_cons_zero, List.set_cons_succ, wp_ok, wipeE, len0, len1, len2, len3, len4, len5, len6, len7, len8, len9, len10, if_true, if_false, Bool.false_eq_true, eq_int, ne_int, gt_int, lt_int', le_int', ge_int', add_int, sub_int, abs_int, int_int, Option.map_some, src_lst, src_tup, ix_t0, ix_t1, ix_t2, ix_t3, ix_l0, ix_l1, ix_l2, is_non, and_true, true_and])
  refine ⟨by decide, by rw [rngT_len']; simp [lim], ?_⟩
  refine comp_drawn (b := b) (k := 10) (fun _ y => ∃ c : List Int, y = tsI c ∧ c.length = n ∧ ∀ x ∈ c, Bd (k + 2) x) (by rw [rngT_len']; show b + 10 * 4 ≤ _; omega) d ?_ ?_
  · intro t ht b' S' hb' d' g'
    (try simp only [List.cons_append, List.nil_append, w_var, t_var, w_int, w_str, w_bl, w_non, w_gl, w_bin, w_neg, t_cmp, w_cmp, t_chain, w_chain, t_isC, w_isC, w_isi, t_isi, t_bop1, t_bop, w_bop1, w_bop, t_nt, w_nt, w_ite, t_ite, w_nil, w_cons, a_tup, w_fz, w_mu, a_disp, a_comp, w_ofSeq, w_call, w_prim, w_ix, w_sl, w_rev, w_pop, w_popAt, w_app, e_nop, e_int, e_var, e_bin, i_seq, a_rng, rngA_int, a_rng2, rngB_int, a_zip, zipA_some, a_enum, enA_some, src_tsI, src_lsI, t_call, t_prim, tru_bl, opt_some, t_nop, List.getElem?_cons_zero, List.getElem?_cons_succ, setTg, setTgs, List.set_cons_zero, List.set_cons_succ, wp_ok, wipeE, len0, len1, len2, len3, len4, len5, len6, len7, len8, len9, len10, if_true, if_false, Bool.false_eq_true, eq_int, ne_int, gt_int, lt_int', le_int', ge_int', add_int, sub_int, abs_int, int_int, Option.map_some, src_lst, src_tup, ix_t0, ix_t1, ix_t2, ix_t3, ix_l0, ix_l1, ix_l2, is_non, and_true, true_and])
    refine ⟨by omega, by rw [rngT_len']; simp [lim]; omega, ?_⟩
    rw [hn2]
    refine drawn_ints h7 (m := 8) d' (by decide) (by decide) (by omega) (by omega) ?_ ?_
    · intro t S1 b1 hb1 d1
      (try simp only [List.cons_append, List.nil_append, w_var, t_var, w_int, w_str, w_bl, w_non, w_gl, w_bin, w_neg, t_cmp, w_cmp, t_chain, w_chain, t_isC, w_isC, w_isi, t_isi, t_bop1, t_bop, w_bop1, w_bop, t_nt, w_nt, w_ite, t_ite, w_nil, w_cons, a_tup, w_fz, w_mu, a_disp, a_comp, w_ofSeq, w_call, w_prim, w_ix, w_sl, w_rev, w_pop, w_popAt, w_app, e_nop, e_int, e_var, e_bin, i_seq, a_rng, rngA_int, a_rng2, rngB_int, a_zip, zipA_some, a_enum, enA_some, src_tsI, src_lsI, t_call, t_prim, tru_bl, opt_some, t_nop, List.getElem?_cons_zero, List.getElem?_cons_succ, setTg, setTgs, List.set_cons_zero, List.set_cons_succ, wp_ok, wipeE, len0, len1, len2, len3, len4, len5, len6, len7, len8, len9, len10, if_true, if_false, Bool.false_eq_true, eq_int, ne_int, gt_int, lt_int', le_int', ge_int', add_int, sub_int, abs_int, int_int, Option.map_some, src_lst, src_tup, ix_t0, ix_t1, ix_t2, ix_t3, ix_l0, ix_l1, ix_l2, is_non, and_true, true_and])
      refine draw_wp h7 d1 (by omega) (by decide) (by decide) fun w S2 w0 w1 d2 g2 => ?_
      (try simp only [List.cons_append, List.nil_append, w_var, t_var, w_int, w_str, w_bl, w_non, w_gl, w_bin, w_neg, t_cmp, w_cmp, t_chain, w_chain, t_isC, w_isC, w_isi, t_isi, t_bop1, t_bop, w_bop1, w_bop, t_nt, w_nt, w_ite, t_ite, w_nil, w_cons, a_tup, w_fz, w_mu, a_disp, a_comp, w_ofSeq, w_call, w_prim, w_ix, w_sl, w_rev, w_pop, w_popAt, w_app, e_nop, e_int, e_var, e_bin, i_seq, a_rng, rngA_int, a_rng2, rngB_int, a_zip, zipA_some, a_enum, enA_some, src_tsI, src_lsI, t_call, t_prim, tru_bl, opt_some, t_nop, List.getElem?_cons_zero, List.getElem?_cons_succ, setTg, setTgs, List.set_cons_zero, List.set_cons_succ, wp_ok, wipeE, len0, len1, len2, len3, len4, len5, len6, len7, len8, len9, len10, if_true, if_false, Bool.false_eq_true, eq_int, ne_int, gt_int, lt_int', le_int', ge_int', add_int, sub_int, abs_int, int_int, Option.map_some, src_lst, src_tup, ix_t0, ix_t1, ix_t2, ix_t3, ix_l0, ix_l1, ix_l2, is_non, and_true, true_and])
      exact ⟨⟨_, rfl, by omega⟩, d2, g2⟩
    · intro ns S1 h1 h2 d1 g1
      (try simp only [List.cons_append, List.nil_append, w_var, t_var, w_int, w_str, w_bl, w_non, w_gl, w_bin, w_neg, t_cmp, w_cmp, t_chain, w_chain, t_isC, w_isC, w_isi, t_isi, t_bop1, t_bop, w_bop1, w_bop, t_nt, w_nt, w_ite, t_ite, w_nil, w_cons, a_tup, w_fz, w_mu, a_disp, a_comp, w_ofSeq, w_call, w_prim, w_ix, w_sl, w_rev, w_pop, w_popAt, w_app, e_nop, e_int, e_var, e_bin, i_seq, a_rng, rngA_int, a_rng2, rngB_int, a_zip, zipA_some, a_enum, enA_some, src_tsI, src_lsI, t_call, t_prim, tru_bl, opt_some, t_nop, List.getElem?_cons_zero, List.getElem?_cons_succ, setTg, setTgs, List.set_cons_zero, List.set_cons_succ, wp_ok, wipeE, len0, len1, len2, len3, len4, len5, len6, len7, len8, len9, len10, if_true, if_false, Bool.false_eq_true, eq_int, ne_int, gt_int, lt_int', le_int', ge_int', add_int, sub_int, abs_int, int_int, Option.map_some, src_lst, src_tup, ix_t0, ix_t1, ix_t2, ix_t3, ix_l0, ix_l1, ix_l2, is_non, and_true, true_and, tup_lst])
      exact ⟨⟨ns, rfl, h1, fun x hx => bd_small (by have := h2 x hx; omega) (by omega)⟩, d1.mono (by omega), g1⟩
  · intro ys S1 hyl hyV d1 g1
    rw [rngT_len'] at hyl d1
    obtain ⟨cs, rfl, hcs0⟩ := rows_in (P := fun c => c.length = n ∧ ∀ x ∈ c, Bd (k + 2) x) (zip_right (P := fun y => ∃ c : List Int, y = tsI c ∧ c.length = n ∧ ∀ x ∈ c, Bd (k + 2) x) (by rw [rngT_len', hyl]) hyV)
    rw [List.length_map] at hyl
    have hcl : cs.length = 4 := hyl
    have hq : 2 ≤ S1.length := d1.two
    have d1' : Dk (b + 40) (S1 ++ [.lst (cs.map tsI)]) := d1.app.mono (by show b + 10 * 4 ≤ _; omega)
    have g1' : Grow S (S1 ++ [.lst (cs.map tsI)]) := g1.trans Grow.app
    have o1 : (S1 ++ [.lst (cs.map tsI)])[S1.length]? = some (.lst (cs.map tsI)) := end_at
    have hS : S.length ≤ S1.length := g1.le
    generalize hq0 : S1.length = q0 at *
    generalize hS1' : S1 ++ [.lst (cs.map tsI)] = S1' at *
    rw [kA_eq]
    (try simp only [List.cons_append, List.nil_append, w_var, t_var, w_int, w_str, w_bl, w_non, w_gl, w_bin, w_neg, t_cmp, w_cmp, t_chain, w_chain, t_isC, w_isC, w_isi, t_isi, t_bop1, t_bop, w_bop1, w_bop, t_nt, w_nt, w_ite, t_ite, w_nil, w_cons, a_tup, w_fz, w_mu, a_disp, a_comp, w_ofSeq, w_call, w_prim, w_ix, w_sl, w_rev, w_pop, w_popAt, w_app, e_nop, e_int, e_var, e_bin, i_seq, a_rng, rngA_int, a_rng2, rngB_int, a_zip, zipA_some, a_enum, enA_some, src_tsI, src_lsI, t_call, t_prim, tru_bl, opt_some, t_nop, List.getElem?_cons_zero, List.getElem?_cons_succ, setTg, setTgs, List.set_cons_zero, List.set_cons_succ, wp_ok, wipeE, len0, len1, len2, len3, len4, len5, len6, len7, len8, len9, len10, if_true, if_false, Bool.false_eq_true, eq_int, ne_int, gt_int, lt_int', le_int', ge_int', add_int, sub_int, abs_int, int_int, Option.map_some, src_lst, src_tup, ix_t0, ix_t1, ix_t2, ix_t3, ix_l0, ix_l1, ix_l2, is_non, and_true, true_and])
    rw [q_drop]
    (try simp only [List.cons_append, List.nil_append, w_var, t_var, w_int, w_str, w_bl, w_non, w_gl, w_bin, w_neg, t_cmp, w_cmp, t_chain, w_chain, t_isC, w_isC, w_isi, t_isi, t_bop1, t_bop, w_bop1, w_bop, t_nt, w_nt, w_ite, t_ite, w_nil, w_cons, a_tup, w_fz, w_mu, a_disp, a_comp, w_ofSeq, w_call, w_prim, w_ix, w_sl, w_rev, w_pop, w_popAt, w_app, e_nop, e_int, e_var, e_bin, i_seq, a_rng, rngA_int, a_rng2, rngB_int, a_zip, zipA_some, a_enum, enA_some, src_tsI, src_lsI, t_call, t_prim, tru_bl, opt_some, t_nop, List.getElem?_cons_zero, List.getElem?_cons_succ, setTg, setTgs, List.set_cons_zero, List.set_cons_succ, wp_ok, wipeE, len0, len1, len2, len3, len4, len5, len6, len7, len8, len9, len10, if_true, if_false, Bool.false_eq_true, eq_int, ne_int, gt_int, lt_int', le_int', ge_int', add_int, sub_int, abs_int, int_int, Option.map_some, src_lst, src_tup, ix_t0, ix_t1, ix_t2, ix_t3, ix_l0, ix_l1, ix_l2, is_non, and_true, true_and, need_at o1, pow9, pow8, mul_int (S := S1') (i := 5) (j := 100000000) (by decide)])
    refine ⟨by omega, by rw [rngT_len']; simp [lim]; omega, ?_⟩
    rw [hn2]
    refine drawn_ints h7 (m := 1000000000) d1' (by decide) (by decide) (by omega) (by omega) ?_ ?_
    · intro t S1 b1 hb1 d1
      (try simp only [List.cons_append, List.nil_append, w_var, t_var, w_int, w_str, w_bl, w_non, w_gl, w_bin, w_neg, t_cmp, w_cmp, t_chain, w_chain, t_isC, w_isC, w_isi, t_isi, t_bop1, t_bop, w_bop1, w_bop, t_nt, w_nt, w_ite, t_ite, w_nil, w_cons, a_tup, w_fz, w_mu, a_disp, a_comp, w_ofSeq, w_call, w_prim, w_ix, w_sl, w_rev, w_pop, w_popAt, w_app, e_nop, e_int, e_var, e_bin, i_seq, a_rng, rngA_int, a_rng2, rngB_int, a_zip, zipA_some, a_enum, enA_some, src_tsI, src_lsI, t_call, t_prim, tru_bl, opt_some, t_nop, List.getElem?_cons_zero, List.getElem?_cons_succ, setTg, setTgs, List.set_cons_zero, List.set_cons_succ, wp_ok, wipeE, len0, len1, len2, len3, len4, len5, len6, len7, len8, len9, len10, if_true, if_false, Bool.false_eq_true, eq_int, ne_int, gt_int, lt_int', le_int', ge_int', add_int, sub_int, abs_int, int_int, Option.map_some, src_lst, src_tup, ix_t0, ix_t1, ix_t2, ix_t3, ix_l0, ix_l1, ix_l2, is_non, and_true, true_and, pow9])
      refine draw_wp h7 d1 (by omega) (by decide) (by decide) fun w S2 w0 w1 d2 g2 => ?_
      (try simp only [List.cons_append, List.nil_append, w_var, t_var, w_int, w_str, w_bl, w_non, w_gl, w_bin, w_neg, t_cmp, w_cmp, t_chain, w_chain, t_isC, w_isC, w_isi, t_isi, t_bop1, t_bop, w_bop1, w_bop, t_nt, w_nt, w_ite, t_ite, w_nil, w_cons, a_tup, w_fz, w_mu, a_disp, a_comp, w_ofSeq, w_call, w_prim, w_ix, w_sl, w_rev, w_pop, w_popAt, w_app, e_nop, e_int, e_var, e_bin, i_seq, a_rng, rngA_int, a_rng2, rngB_int, a_zip, zipA_some, a_enum, enA_some, src_tsI, src_lsI, t_call, t_prim, tru_bl, opt_some, t_nop, List.getElem?_cons_zero, List.getElem?_cons_succ, setTg, setTgs, List.set_cons_zero, List.set_cons_succ, wp_ok, wipeE, len0, len1, len2, len3, len4, len5, len6, len7, len8, len9, len10, if_true, if_false, Bool.false_eq_true, eq_int, ne_int, gt_int, lt_int', le_int', ge_int', add_int, sub_int, abs_int, int_int, Option.map_some, src_lst, src_tup, ix_t0, ix_t1, ix_t2, ix_t3, ix_l0, ix_l1, ix_l2, is_non, and_true, true_and, pow8, mul_int (S := S2) (i := 5) (j := 100000000) (by decide)])
      exact ⟨⟨_, rfl, by omega⟩, d2, g2⟩
    · intro ns S2 hnl hnb d2 g2
      have o2 := g2.own o1 hq
      (try simp only [List.cons_append, List.nil_append, w_var, t_var, w_int, w_str, w_bl, w_non, w_gl, w_bin, w_neg, t_cmp, w_cmp, t_chain, w_chain, t_isC, w_isC, w_isi, t_isi, t_bop1, t_bop, w_bop1, w_bop, t_nt, w_nt, w_ite, t_ite, w_nil, w_cons, a_tup, w_fz, w_mu, a_disp, a_comp, w_ofSeq, w_call, w_prim, w_ix, w_sl, w_rev, w_pop, w_popAt, w_app, e_nop, e_int, e_var, e_bin, i_seq, a_rng, rngA_int, a_rng2, rngB_int, a_zip, zipA_some, a_enum, enA_some, src_tsI, src_lsI, t_call, t_prim, tru_bl, opt_some, t_nop, List.getElem?_cons_zero, List.getElem?_cons_succ, setTg, setTgs, List.set_cons_zero, List.set_cons_succ, wp_ok, wipeE, len0, len1, len2, len3, len4, len5, len6, len7, len8, len9, len10, if_true, if_false, Bool.false_eq_true, eq_int, ne_int, gt_int, lt_int', le_int', ge_int', add_int, sub_int, abs_int, int_int, Option.map_some, src_lst, src_tup, ix_t0, ix_t1, ix_t2, ix_t3, ix_l0, ix_l1, ix_l2, is_non, and_true, true_and, tup_lst, app_at o2 (y := .tup (ns.map Tv.int)) (by rw [List.length_map]; omega)])
      rw [kD_eq, q_for]
      (try simp only [List.cons_append, List.nil_append, w_var, t_var, w_int, w_str, w_bl, w_non, w_gl, w_bin, w_neg, t_cmp, w_cmp, t_chain, w_chain, t_isC, w_isC, w_isi, t_isi, t_bop1, t_bop, w_bop1, w_bop, t_nt, w_nt, w_ite, t_ite, w_nil, w_cons, a_tup, w_fz, w_mu, a_disp, a_comp, w_ofSeq, w_call, w_prim, w_ix, w_sl, w_rev, w_pop, w_popAt, w_app, e_nop, e_int, e_var, e_bin, i_seq, a_rng, rngA_int, a_rng2, rngB_int, a_zip, zipA_some, a_enum, enA_some, src_tsI, src_lsI, t_call, t_prim, tru_bl, opt_some, t_nop, List.getElem?_cons_zero, List.getElem?_cons_succ, setTg, setTgs, List.set_cons_zero, List.set_cons_succ, wp_ok, wipeE, len0, len1, len2, len3, len4, len5, len6, len7, len8, len9, len10, if_true, if_false, Bool.false_eq_true, eq_int, ne_int, gt_int, lt_int', le_int', ge_int', add_int, sub_int, abs_int, int_int, Option.map_some, src_lst, src_tup, ix_t0, ix_t1, ix_t2, ix_t3, ix_l0, ix_l1, ix_l2, is_non, and_true, true_and])
      rw [kF_eq]
      have d2' : Dk (b + 100) (S2.set q0 (.lst (cs.map tsI ++ [.tup (ns.map Tv.int)]))) := (d2.set hq).mono (by omega)
      have g2' : Grow S (S2.set q0 (.lst (cs.map tsI ++ [.tup (ns.map Tv.int)]))) := (g1'.trans g2).set hS
      refine for_on (fun dn r env S' => dn.length + r.length = R.length ∧ Dk (b + 100 + 4 * dn.length) S' ∧ Grow S S' ∧ ∃ j4 j5 j6 j7 j8 j9 : Option Tv, ∃ cs : List (List Int), env = [some (.cell 1), some (.tup (R.map tsI)), some (.int n), some (.cell q0), j4, j5, j6, j7, j8, j9] ∧ S'[q0]? = some (.lst (cs.map tsI)) ∧ cs.length = 5 + dn.length ∧ ∀ c ∈ cs, c.length = n ∧ ∀ x ∈ c, Bd (k + 2) x) (fun _ _ _ _ _ => rfl) ?_ ?_ ⟨by simp, by simpa using d2', g2', _, _, _, _, _, _, cs ++ [ns], rfl, by rw [set_at o2, List.map_append]; rfl, by rw [List.length_append, hcl]; rfl, fun c hc => ?_⟩
      · rintro dn o r env S3 hx ⟨hlen, d3, g3, j4, j5, j6, j7, j8, j9, cs, rfl, o3, lcs, hcs⟩
        rw [List.length_cons] at hlen
        obtain ⟨ol, ob⟩ := hR o (by rw [hx]; simp)
        (try simp only [List.cons_append, List.nil_append, w_var, t_var, w_int, w_str, w_bl, w_non, w_gl, w_bin, w_neg, t_cmp, w_cmp, t_chain, w_chain, t_isC, w_isC, w_isi, t_isi, t_bop1, t_bop, w_bop1, w_bop, t_nt, w_nt, w_ite, t_ite, w_nil, w_cons, a_tup, w_fz, w_mu, a_disp, a_comp, w_ofSeq, w_call, w_prim, w_ix, w_sl, w_rev, w_pop, w_popAt, w_app, e_nop, e_int, e_var, e_bin, i_seq, a_rng, rngA_int, a_rng2, rngB_int, a_zip, zipA_some, a_enum, enA_some, src_tsI, src_lsI, t_call, t_prim, tru_bl, opt_some, t_nop, List.getElem?_cons_zero, List.getElem?_cons_succ, setTg, setTgs, List.set_cons_zero, List.set_cons_succ, wp_ok, wipeE, len0, len1, len2, len3, len4, len5, len6, len7, len8, len9, len10, if_true, if_false, Bool.false_eq_true, eq_int, ne_int, gt_int, lt_int', le_int', ge_int', add_int, sub_int, abs_int, int_int, Option.map_some, src_lst, src_tup, ix_t0, ix_t1, ix_t2, ix_t3, ix_l0, ix_l1, ix_l2, is_non, and_true, true_and])
        rw [q_asg]
        (try simp only [List.cons_append, List.nil_append, w_var, t_var, w_int, w_str, w_bl, w_non, w_gl, w_bin, w_neg, t_cmp, w_cmp, t_chain, w_chain, t_isC, w_isC, w_isi, t_isi, t_bop1, t_bop, w_bop1, w_bop, t_nt, w_nt, w_ite, t_ite, w_nil, w_cons, a_tup, w_fz, w_mu, a_disp, a_comp, w_ofSeq, w_call, w_prim, w_ix, w_sl, w_rev, w_pop, w_popAt, w_app, e_nop, e_int, e_var, e_bin, i_seq, a_rng, rngA_int, a_rng2, rngB_int, a_zip, zipA_some, a_enum, enA_some, src_tsI, src_lsI, t_call, t_prim, tru_bl, opt_some, t_nop, List.getElem?_cons_zero, List.getElem?_cons_succ, setTg, setTgs, List.set_cons_zero, List.set_cons_succ, wp_ok, wipeE, len0, len1, len2, len3, len4, len5, len6, len7, len8, len9, len10, if_true, if_false, Bool.false_eq_true, eq_int, ne_int, gt_int, lt_int', le_int', ge_int', add_int, sub_int, abs_int, int_int, Option.map_some, src_lst, src_tup, ix_t0, ix_t1, ix_t2, ix_t3, ix_l0, ix_l1, ix_l2, is_non, and_true, true_and])
        refine draw_wp h7 d3 (by omega) (by omega) (by omega) fun a S4 a0 a1 d4 g4 => ?_
        obtain ⟨a, rfl⟩ := Int.eq_ofNat_of_zero_le a0
        (try simp only [List.cons_append, List.nil_append, w_var, t_var, w_int, w_str, w_bl, w_non, w_gl, w_bin, w_neg, t_cmp, w_cmp, t_chain, w_chain, t_isC, w_isC, w_isi, t_isi, t_bop1, t_bop, w_bop1, w_bop, t_nt, w_nt, w_ite, t_ite, w_nil, w_cons, a_tup, w_fz, w_mu, a_disp, a_comp, w_ofSeq, w_call, w_prim, w_ix, w_sl, w_rev, w_pop, w_popAt, w_app, e_nop, e_int, e_var, e_bin, i_seq, a_rng, rngA_int, a_rng2, rngB_int, a_zip, zipA_some, a_enum, enA_some, src_tsI, src_lsI, t_call, t_prim, tru_bl, opt_some, t_nop, List.getElem?_cons_zero, List.getElem?_cons_succ, setTg, setTgs, List.set_cons_zero, List.set_cons_succ, wp_ok, wipeE, len0, len1, len2, len3, len4, len5, len6, len7, len8, len9, len10, if_true, if_false, Bool.false_eq_true, eq_int, ne_int, gt_int, lt_int', le_int', ge_int', add_int, sub_int, abs_int, int_int, Option.map_some, src_lst, src_tup, ix_t0, ix_t1, ix_t2, ix_t3, ix_l0, ix_l1, ix_l2, is_non, and_true, true_and])
        refine draw_wp h7 d4 (by omega) (by omega) (by omega) fun c S5 c0 c1' d5 g5 => ?_
        obtain ⟨c, rfl⟩ := Int.eq_ofNat_of_zero_le c0
        have ha : a < n := by omega
        have hc : c < n := by omega
        have o5 := g5.own (g4.own o3 hq) hq
        (try simp only [List.cons_append, List.nil_append, w_var, t_var, w_int, w_str, w_bl, w_non, w_gl, w_bin, w_neg, t_cmp, w_cmp, t_chain, w_chain, t_isC, w_isC, w_isi, t_isi, t_bop1, t_bop, w_bop1, w_bop, t_nt, w_nt, w_ite, t_ite, w_nil, w_cons, a_tup, w_fz, w_mu, a_disp, a_comp, w_ofSeq, w_call, w_prim, w_ix, w_sl, w_rev, w_pop, w_popAt, w_app, e_nop, e_int, e_var, e_bin, i_seq, a_rng, rngA_int, a_rng2, rngB_int, a_zip, zipA_some, a_enum, enA_some, src_tsI, src_lsI, t_call, t_prim, tru_bl, opt_some, t_nop, List.getElem?_cons_zero, List.getElem?_cons_succ, setTg, setTgs, List.set_cons_zero, List.set_cons_succ, wp_ok, wipeE, len0, len1, len2, len3, len4, len5, len6, len7, len8, len9, len10, if_true, if_false, Bool.false_eq_true, eq_int, ne_int, gt_int, lt_int', le_int', ge_int', add_int, sub_int, abs_int, int_int, Option.map_some, src_lst, src_tup, ix_t0, ix_t1, ix_t2, ix_t3, ix_l0, ix_l1, ix_l2, is_non, and_true, true_and])
        rw [kA_eq]
        (try simp only [List.cons_append, List.nil_append, w_var, t_var, w_int, w_str, w_bl, w_non, w_gl, w_bin, w_neg, t_cmp, w_cmp, t_chain, w_chain, t_isC, w_isC, w_isi, t_isi, t_bop1, t_bop, w_bop1, w_bop, t_nt, w_nt, w_ite, t_ite, w_nil, w_cons, a_tup, w_fz, w_mu, a_disp, a_comp, w_ofSeq, w_call, w_prim, w_ix, w_sl, w_rev, w_pop, w_popAt, w_app, e_nop, e_int, e_var, e_bin, i_seq, a_rng, rngA_int, a_rng2, rngB_int, a_zip, zipA_some, a_enum, enA_some, src_tsI, src_lsI, t_call, t_prim, tru_bl, opt_some, t_nop, List.getElem?_cons_zero, List.getElem?_cons_succ, setTg, setTgs, List.set_cons_zero, List.set_cons_succ, wp_ok, wipeE, len0, len1, len2, len3, len4, len5, len6, len7, len8, len9, len10, if_true, if_false, Bool.false_eq_true, eq_int, ne_int, gt_int, lt_int', le_int', ge_int', add_int, sub_int, abs_int, int_int, Option.map_some, src_lst, src_tup, ix_t0, ix_t1, ix_t2, ix_t3, ix_l0, ix_l1, ix_l2, is_non, and_true, true_and])
        rw [q_asg]
        (try simp only [List.cons_append, List.nil_append, w_var, t_var, w_int, w_str, w_bl, w_non, w_gl, w_bin, w_neg, t_cmp, w_cmp, t_chain, w_chain, t_isC, w_isC, w_isi, t_isi, t_bop1, t_bop, w_bop1, w_bop, t_nt, w_nt, w_ite, t_ite, w_nil, w_cons, a_tup, w_fz, w_mu, a_disp, a_comp, w_ofSeq, w_call, w_prim, w_ix, w_sl, w_rev, w_pop, w_popAt, w_app, e_nop, e_int, e_var, e_bin, i_seq, a_rng, rngA_int, a_rng2, rngB_int, a_zip, zipA_some, a_enum, enA_some, src_tsI, src_lsI, t_call, t_prim, tru_bl, opt_some, t_nop, List.getElem?_cons_zero, List.getElem?_cons_succ, setTg, setTgs, List.set_cons_zero, List.set_cons_succ, wp_ok, wipeE, len0, len1, len2, len3, len4, len5, len6, len7, len8, len9, len10, if_true, if_false, Bool.false_eq_true, eq_int, ne_int, gt_int, lt_int', le_int', ge_int', add_int, sub_int, abs_int, int_int, Option.map_some, src_lst, src_tup, ix_t0, ix_t1, ix_t2, ix_t3, ix_l0, ix_l1, ix_l2, is_non, and_true, true_and])
        refine ⟨by omega, by rw [rngT_len']; simp [lim]; omega, ?_⟩
        rw [hn2, zeros_ok rfl]
        (try simp only [List.cons_append, List.nil_append, w_var, t_var, w_int, w_str, w_bl, w_non, w_gl, w_bin, w_neg, t_cmp, w_cmp, t_chain, w_chain, t_isC, w_isC, w_isi, t_isi, t_bop1, t_bop, w_bop1, w_bop, t_nt, w_nt, w_ite, t_ite, w_nil, w_cons, a_tup, w_fz, w_mu, a_disp, a_comp, w_ofSeq, w_call, w_prim, w_ix, w_sl, w_rev, w_pop, w_popAt, w_app, e_nop, e_int, e_var, e_bin, i_seq, a_rng, rngA_int, a_rng2, rngB_int, a_zip, zipA_some, a_enum, enA_some, src_tsI, src_lsI, t_call, t_prim, tru_bl, opt_some, t_nop, List.getElem?_cons_zero, List.getElem?_cons_succ, setTg, setTgs, List.set_cons_zero, List.set_cons_succ, wp_ok, wipeE, len0, len1, len2, len3, len4, len5, len6, len7, len8, len9, len10, if_true, if_false, Bool.false_eq_true, eq_int, ne_int, gt_int, lt_int', le_int', ge_int', add_int, sub_int, abs_int, int_int, Option.map_some, src_lst, src_tup, ix_t0, ix_t1, ix_t2, ix_t3, ix_l0, ix_l1, ix_l2, is_non, and_true, true_and])
        have hz : 2 ≤ S5.length := d5.two
        have o6 : (S5 ++ [.lst ((List.replicate n (0 : Int)).map Tv.int)])[S5.length]? = some (.lst ((List.replicate n (0 : Int)).map Tv.int)) := end_at
        have d6 : Dk (b + 100 + 4 * dn.length + 1 + 1) (S5 ++ [.lst ((List.replicate n (0 : Int)).map Tv.int)]) := d5.app
        have g6 : Grow S (S5 ++ [.lst ((List.replicate n (0 : Int)).map Tv.int)]) := g3.trans (g4.trans (g5.trans Grow.app))
        have o56 : (S5 ++ [.lst ((List.replicate n (0 : Int)).map Tv.int)])[q0]? = some (.lst (cs.map tsI)) := by
          rw [List.getElem?_append_left (List.getElem?_eq_some_iff.mp o5).1]
          exact o5
        have hne : q0 ≠ S5.length := by
          have := (List.getElem?_eq_some_iff.mp o5).1
          omega
        have hS5 : S.length ≤ S5.length := (g3.trans (g4.trans g5)).le
        generalize hz0 : List.replicate n (0 : Int) = zs at *
        have lz : zs.length = n := by rw [← hz0, List.length_replicate]
        have bz : ∀ x ∈ zs, x = 0 := fun x hx => by rw [← hz0] at hx; exact List.eq_of_mem_replicate hx
        generalize hq1 : S5.length = q1 at *
        generalize hS6 : S5 ++ [.lst (zs.map Tv.int)] = S6 at *
        rw [kA_eq]
        (try simp only [List.cons_append, List.nil_append, w_var, t_var, w_int, w_str, w_bl, w_non, w_gl, w_bin, w_neg, t_cmp, w_cmp, t_chain, w_chain, t_isC, w_isC, w_isi, t_isi, t_bop1, t_bop, w_bop1, w_bop, t_nt, w_nt, w_ite, t_ite, w_nil, w_cons, a_tup, w_fz, w_mu, a_disp, a_comp, w_ofSeq, w_call, w_prim, w_ix, w_sl, w_rev, w_pop, w_popAt, w_app, e_nop, e_int, e_var, e_bin, i_seq, a_rng, rngA_int, a_rng2, rngB_int, a_zip, zipA_some, a_enum, enA_some, src_tsI, src_lsI, t_call, t_prim, tru_bl, opt_some, t_nop, List.getElem?_cons_zero, List.getElem?_cons_succ, setTg, setTgs, List.set_cons_zero, List.set_cons_succ, wp_ok, wipeE, len0, len1, len2, len3, len4, len5, len6, len7, len8, len9, len10, if_true, if_false, Bool.false_eq_true, eq_int, ne_int, gt_int, lt_int', le_int', ge_int', add_int, sub_int, abs_int, int_int, Option.map_some, src_lst, src_tup, ix_t0, ix_t1, ix_t2, ix_t3, ix_l0, ix_l1, ix_l2, is_non, and_true, true_and])
        rw [q_set]
        (try simp only [List.cons_append, List.nil_append, w_var, t_var, w_int, w_str, w_bl, w_non, w_gl, w_bin, w_neg, t_cmp, w_cmp, t_chain, w_chain, t_isC, w_isC, w_isi, t_isi, t_bop1, t_bop, w_bop1, w_bop, t_nt, w_nt, w_ite, t_ite, w_nil, w_cons, a_tup, w_fz, w_mu, a_disp, a_comp, w_ofSeq, w_call, w_prim, w_ix, w_sl, w_rev, w_pop, w_popAt, w_app, e_nop, e_int, e_var, e_bin, i_seq, a_rng, rngA_int, a_rng2, rngB_int, a_zip, zipA_some, a_enum, enA_some, src_tsI, src_lsI, t_call, t_prim, tru_bl, opt_some, t_nop, List.getElem?_cons_zero, List.getElem?_cons_succ, setTg, setTgs, List.set_cons_zero, List.set_cons_succ, wp_ok, wipeE, len0, len1, len2, len3, len4, len5, len6, len7, len8, len9, len10, if_true, if_false, Bool.false_eq_true, eq_int, ne_int, gt_int, lt_int', le_int', ge_int', add_int, sub_int, abs_int, int_int, Option.map_some, src_lst, src_tup, ix_t0, ix_t1, ix_t2, ix_t3, ix_l0, ix_l1, ix_l2, is_non, and_true, true_and, ix_cell o6 (show a < zs.length by omega), ix_at (S := S6) (r := o) (p := c) (by omega), set_cell o6 (show a < zs.length by omega)])
        generalize hz1 : zs.set a (Qr.at' zs a + Qr.at' o c) = z1
        have lz1 : z1.length = n := by rw [← hz1, List.length_set, lz]
        have bz1 : ∀ x ∈ z1, Bd (k + 1) x := fun x hx => by
          rw [← hz1] at hx
          rcases mem_set' hx with e | e
          · rw [e]
            refine Bd.add ?_ (bd_at ob)
            refine bd_at (fun y hy => ?_)
            rw [bz y hy]
            exact Nat.two_pow_pos k
          · rw [bz x e]
            exact Nat.two_pow_pos (k + 1)
        have o7 : (S6.set q1 (.lst (z1.map Tv.int)))[q1]? = some (.lst (z1.map Tv.int)) := set_at o6
        rw [kS_eq, q_set]
        (try simp only [List.cons_append, List.nil_append, w_var, t_var, w_int, w_str, w_bl, w_non, w_gl, w_bin, w_neg, t_cmp, w_cmp, t_chain, w_chain, t_isC, w_isC, w_isi, t_isi, t_bop1, t_bop, w_bop1, w_bop, t_nt, w_nt, w_ite, t_ite, w_nil, w_cons, a_tup, w_fz, w_mu, a_disp, a_comp, w_ofSeq, w_call, w_prim, w_ix, w_sl, w_rev, w_pop, w_popAt, w_app, e_nop, e_int, e_var, e_bin, i_seq, a_rng, rngA_int, a_rng2, rngB_int, a_zip, zipA_some, a_enum, enA_some, src_tsI, src_lsI, t_call, t_prim, tru_bl, opt_some, t_nop, List.getElem?_cons_zero, List.getElem?_cons_succ, setTg, setTgs, List.set_cons_zero, List.set_cons_succ, wp_ok, wipeE, len0, len1, len2, len3, len4, len5, len6, len7, len8, len9, len10, if_true, if_false, Bool.false_eq_true, eq_int, ne_int, gt_int, lt_int', le_int', ge_int', add_int, sub_int, abs_int, int_int, Option.map_some, src_lst, src_tup, ix_t0, ix_t1, ix_t2, ix_t3, ix_l0, ix_l1, ix_l2, is_non, and_true, true_and, ix_cell o7 (show c < z1.length by omega), ix_at (S := S6.set q1 (.lst (z1.map Tv.int))) (r := o) (p := a) (by omega), set_cell o7 (show c < z1.length by omega)])
        generalize hz2 : z1.set c (Qr.at' z1 c - Qr.at' o a) = z2
        have lz2 : z2.length = n := by rw [← hz2, List.length_set, lz1]
        have bz2 : ∀ x ∈ z2, Bd (k + 2) x := fun x hx => by
          rw [← hz2] at hx
          rcases mem_set' hx with e | e
          · rw [e, Int.sub_eq_add_neg]
            exact Bd.add (bd_at bz1) ((bd_at ob).neg.mono (by omega))
          · exact (bz1 x e).mono (by omega)
        rw [kS_eq, q_drop]
        have o8 : ((S6.set q1 (.lst (z1.map Tv.int))).set q1 (.lst (z2.map Tv.int)))[q1]? = some (.lst (z2.map Tv.int)) := set_at o7
        have o9 : ((S6.set q1 (.lst (z1.map Tv.int))).set q1 (.lst (z2.map Tv.int)))[q0]? = some (.lst (cs.map tsI)) := by rw [set_ne hne, set_ne hne]; exact o56
        have d8 : Dk (b + 100 + 4 * dn.length + 1 + 1) ((S6.set q1 (.lst (z1.map Tv.int))).set q1 (.lst (z2.map Tv.int))) := (d6.set hz).set hz
        have g8 : Grow S ((S6.set q1 (.lst (z1.map Tv.int))).set q1 (.lst (z2.map Tv.int))) := (g6.set hS5).set hS5
        generalize (S6.set q1 (.lst (z1.map Tv.int))).set q1 (.lst (z2.map Tv.int)) = S8 at *
        (try simp only [List.cons_append, List.nil_append, w_var, t_var, w_int, w_str, w_bl, w_non, w_gl, w_bin, w_neg, t_cmp, w_cmp, t_chain, w_chain, t_isC, w_isC, w_isi, t_isi, t_bop1, t_bop, w_bop1, w_bop, t_nt, w_nt, w_ite, t_ite, w_nil, w_cons, a_tup, w_fz, w_mu, a_disp, a_comp, w_ofSeq, w_call, w_prim, w_ix, w_sl, w_rev, w_pop, w_popAt, w_app, e_nop, e_int, e_var, e_bin, i_seq, a_rng, rngA_int, a_rng2, rngB_int, a_zip, zipA_some, a_enum, enA_some, src_tsI, src_lsI, t_call, t_prim, tru_bl, opt_some, t_nop, List.getElem?_cons_zero, List.getElem?_cons_succ, setTg, setTgs, List.set_cons_zero, List.set_cons_succ, wp_ok, wipeE, len0, len1, len2, len3, len4, len5, len6, len7, len8, len9, len10, if_true, if_false, Bool.false_eq_true, eq_int, ne_int, gt_int, lt_int', le_int', ge_int', add_int, sub_int, abs_int, int_int, Option.map_some, src_lst, src_tup, ix_t0, ix_t1, ix_t2, ix_t3, ix_l0, ix_l1, ix_l2, is_non, and_true, true_and, need_at o9, tup_cell o8, app_at o9 (y := .tup (z2.map Tv.int)) (by rw [List.length_map]; omega)])
        rw [kD_eq]
        (try simp only [exs_nil, q_asg, kA_eq, kR_eq, q_drop, kD_eq, q_ret, q_if, kI_t, kI_f, q_set, kS_eq, q_pass, q_brk, q_cont, q_for, kF_eq, List.cons_append, List.nil_append, w_var, t_var, w_int, w_str, w_bl, w_non, w_gl, w_bin, w_neg, t_cmp, w_cmp, t_chain, w_chain, t_isC, w_isC, w_isi, t_isi, t_bop1, t_bop, w_bop1, w_bop, t_nt, w_nt, w_ite, t_ite, w_nil, w_cons, a_tup, w_fz, w_mu, a_disp, a_comp, w_ofSeq, w_call, w_prim, w_ix, w_sl, w_rev, w_pop, w_popAt, w_app, e_nop, e_int, e_var, e_bin, i_seq, a_rng, rngA_int, a_rng2, rngB_int, a_zip, zipA_some, a_enum, enA_some, src_tsI, src_lsI, t_call, t_prim, tru_bl, opt_some, t_nop, List.getElem?_cons_zero, List.getElem?_cons_succ, setTg, setTgs, List.set_cons_zero, List.set_cons_succ, wp_ok, wipeE, len0, len1, len2, len3, len4, len5, len6, len7, len8, len9, len10, if_true, if_false, Bool.false_eq_true, eq_int, ne_int, gt_int, lt_int', le_int', ge_int', add_int, sub_int, abs_int, int_int, Option.map_some, src_lst, src_tup, ix_t0, ix_t1, ix_t2, ix_t3, ix_l0, ix_l1, ix_l2, is_non, and_true, true_and])
        refine ⟨by rw [List.length_append, List.length_singleton]; omega, (d8.set hq).mono (by rw [List.length_append, List.length_singleton]; omega), g8.set hS, _, _, _, _, _, _, cs ++ [z2], rfl, ?_, by rw [List.length_append, List.length_append, lcs]; rfl, fun u hu => ?_⟩
        · rw [set_at o9, List.map_append]
          rfl
        · rcases List.mem_append.mp hu with e | e
          · exact hcs u e
          · rw [List.mem_singleton.mp e]
            exact ⟨lz2, bz2⟩
      · rintro env S3 ⟨hlen, d3, g3, j4, j5, j6, j7, j8, j9, cs, rfl, o3, lcs, hcs⟩
        show kR _ _ _ _ _ _
        rw [kR_eq]
        (try simp only [exs_nil, q_asg, kA_eq, kR_eq, q_drop, kD_eq, q_ret, q_if, kI_t, kI_f, q_set, kS_eq, q_pass, q_brk, q_cont, q_for, kF_eq, List.cons_append, List.nil_append, w_var, t_var, w_int, w_str, w_bl, w_non, w_gl, w_bin, w_neg, t_cmp, w_cmp, t_chain, w_chain, t_isC, w_isC, w_isi, t_isi, t_bop1, t_bop, w_bop1, w_bop, t_nt, w_nt, w_ite, t_ite, w_nil, w_cons, a_tup, w_fz, w_mu, a_disp, a_comp, w_ofSeq, w_call, w_prim, w_ix, w_sl, w_rev, w_pop, w_popAt, w_app, e_nop, e_int, e_var, e_bin, i_seq, a_rng, rngA_int, a_rng2, rngB_int, a_zip, zipA_some, a_enum, enA_some, src_tsI, src_lsI, t_call, t_prim, tru_bl, opt_some, t_nop, List.getElem?_cons_zero, List.getElem?_cons_succ, setTg, setTgs, List.set_cons_zero, List.set_cons_succ, wp_ok, wipeE, len0, len1, len2, len3, len4, len5, len6, len7, len8, len9, len10, if_true, if_false, Bool.false_eq_true, eq_int, ne_int, gt_int, lt_int', le_int', ge_int', add_int, sub_int, abs_int, int_int, Option.map_some, src_lst, src_tup, ix_t0, ix_t1, ix_t2, ix_t3, ix_l0, ix_l1, ix_l2, is_non, and_true, true_and])
        exact ⟨⟨q0, rfl⟩, ⟨q0, cs, rfl, o3, by omega, hcs⟩, d3.mono (by omega), g3⟩
      · rcases List.mem_append.mp hc with e | e
        · exact hcs0 c e
        · rw [List.mem_singleton.mp e]
          exact ⟨hnl, fun x hx => bd_small (by have := hnb x hx; omega) (by omega)⟩
theorem dOks_rows {k : Nat} : ∀ R : List (List Int), Tv.dOks (k + 1) (R.map tsI) = true
  | [] => rfl
  | r :: R => by rw [List.map_cons, Tv.dOks, dOks_rows R, tsI, Tv.dOk, dOks_ints]; rfl
theorem ne_tup0 {S : Sto} {R : List (List Int)} : cmpV .ne S (.tup (R.map tsI)) (.tup []) = some (!R.isEmpty) := by
  have d := dOks_rows (k := 14) R
  cases R with
  | nil => simp [cmpV, eqS, eqS0, thaw, Tv.dOk, Tv.dOks, Tv.eqb, Tv.eqbs]
  | cons r R =>
    have e : cmpV .ne S (.tup ((r :: R).map tsI)) (.tup []) = (if Tv.dOk 16 (.tup ((r :: R).map tsI)) = true ∧ Tv.dOk 16 (.tup []) = true then some (Tv.eqb (.tup ((r :: R).map tsI)) (.tup [])) else none).map (!·) := rfl
    rw [e, if_pos ⟨by rw [Tv.dOk]; exact d, rfl⟩]
    rfl
theorem add_tup {S : Sto} {A B : List Tv} (h : A.length + B.length ≤ 100000) : binV .add S (.tup A) (.tup B) = some (.tup (A ++ B)) := by
  show (if A.length + B.length ≤ lim then some (Tv.tup (A ++ B)) else none) = _
  rw [if_pos (by simp [lim]; omega)]
theorem k13_law {cf c7 : Nat → List Tv → M Tv} {ns : List Int}
    (h6 : (cf 6 [.scr (ns.map Tv.int)] []).wp fun t S => t = .cell 1 ∧ Dk 0 S)
    (h7 : cf 7 = runD c7 xDraw)
    (h9 : ∀ (S : Sto) (b m : Nat), Dk b S → m ≤ 100 → b + 2 * m ≤ 900000 → (cf 9 [.cell 1, .int m] S).wp fun t S' => Wts m t ∧ Dk (b + 2 * m) S' ∧ Grow S S')
    (h18 : ∃ c', cf 18 = runD c' xReduced ∧ RowDefs c')
    (h22 : ∀ (S : Sto) (R : List (List Int)) (v : List Int) (a b : Nat), (∀ r ∈ R, r.length ≤ 1000 ∧ ∀ x ∈ r, Bd a x) → (∀ x ∈ v, Bd b x) → a + b ≤ 900000 → cf 22 [.tup (R.map tsI), tsI v] S = .ok (.int (Qr.lex v R)) S)
    (h23 : ∀ (S : Sto) (b n k : Nat) (R : List (List Int)), Dk b S → 1 ≤ n ∧ n ≤ 10 → (∀ r ∈ R, r.length = n ∧ ∀ x ∈ r, Bd k x) → 40 ≤ k → R.length ≤ 100 → b + 1000 ≤ 900000 →
      (cf 23 [.cell 1, .tup (R.map tsI), .int n] S).wp fun t S' => Chg n (k + 2) 200 S S' t ∧ Dk (b + 1000) S' ∧ Grow S S') :
    ∃ S', runD cf xLaw_k13 [.scr (ns.map Tv.int)] [] = .ok (.bl true) S' := by
  refine run_law rfl ?_
  show (exs cf Fu xLaw_k13.body [some (.scr (ns.map Tv.int)), none, none, none, none, none, none, none, none, none, none] []).wp _
  unfold xLaw_k13
  obtain ⟨c', e18, rd⟩ := h18
  rw [q_asg]
  (try simp only [List.cons_append, List.nil_append, w_var, t_var, w_int, w_str, w_bl, w_non, w_gl, w_bin, w_neg, t_cmp, w_cmp, t_chain, w_chain, t_isC, w_isC, w_isi, t_isi, t_bop1, t_bop, w_bop1, w_bop, t_nt, w_nt, w_ite, t_ite, w_nil, w_cons, a_tup, w_fz, w_mu, a_disp, a_comp, w_ofSeq, w_call, w_prim, w_ix, w_sl, w_rev, w_pop, w_popAt, w_app, e_nop, e_int, e_var, e_bin, i_seq, a_rng, rngA_int, a_rng2, rngB_int, a_zip, zipA_some, a_enum, enA_some, src_tsI, src_lsI, t_call, t_prim, tru_bl, opt_some, t_nop, List.getElem?_cons_zero, List.getElem?_cons_succ, setTg, setTgs, List.set_cons_zero, List.set_cons_succ, wp_ok, wipeE, len0, len1, len2, len3, len4, len5, len6, len7, len8, len9, len10, if_true, if_false, Bool.false_eq_true, eq_int, ne_int, gt_int, lt_int', le_int', ge_int', add_int, sub_int, abs_int, int_int, Option.map_some, src_lst, src_tup, ix_t0, ix_t1, ix_t2, ix_t3, ix_l0, ix_l1, ix_l2, is_non, and_true, true_and])
  refine wp_mono h6 ?_
  rintro t S ⟨rfl, d0⟩
  (try simp only [exs_nil, q_asg, kA_eq, kR_eq, q_drop, kD_eq, q_ret, q_if, kI_t, kI_f, q_set, kS_eq, q_pass, q_brk, q_cont, q_for, kF_eq, List.cons_append, List.nil_append, w_var, t_var, w_int, w_str, w_bl, w_non, w_gl, w_bin, w_neg, t_cmp, w_cmp, t_chain, w_chain, t_isC, w_isC, w_isi, t_isi, t_bop1, t_bop, w_bop1, w_bop, t_nt, w_nt, w_ite, t_ite, w_nil, w_cons, a_tup, w_fz, w_mu, a_disp, a_comp, w_ofSeq, w_call, w_prim, w_ix, w_sl, w_rev, w_pop, w_popAt, w_app, e_nop, e_int, e_var, e_bin, i_seq, a_rng, rngA_int, a_rng2, rngB_int, a_zip, zipA_some, a_enum, enA_some, src_tsI, src_lsI, t_call, t_prim, tru_bl, opt_some, t_nop, List.getElem?_cons_zero, List.getElem?_cons_succ, setTg, setTgs, List.set_cons_zero, List.set_cons_succ, wp_ok, wipeE, len0, len1, len2, len3, len4, len5, len6, len7, len8, len9, len10, if_true, if_false, Bool.false_eq_true, eq_int, ne_int, gt_int, lt_int', le_int', ge_int', add_int, sub_int, abs_int, int_int, Option.map_some, src_lst, src_tup, ix_t0, ix_t1, ix_t2, ix_t3, ix_l0, ix_l1, ix_l2, is_non, and_true, true_and])
  refine ⟨by decide, ?_⟩
  rw [rngT_map]
  refine for_on (fun dn r env S => Dk (1100 * dn.length) S ∧ dn.length + r.length = 8 ∧ ∃ j2 j3 j4 j5 j6 j7 j8 j9 j10 : Option Tv, env = [some (.scr (ns.map Tv.int)), some (.cell 1), j2, j3, j4, j5, j6, j7, j8, j9, j10]) (fun _ _ _ _ _ => rfl) ?_ ?_ ⟨d0, by decide, _, _, _, _, _, _, _, _, _, rfl⟩
  · rintro dn i r env S - ⟨d, hlen, j2, j3, j4, j5, j6, j7, j8, j9, j10, rfl⟩
    simp only [List.length_cons] at hlen
    (try simp only [List.cons_append, List.nil_append, w_var, t_var, w_int, w_str, w_bl, w_non, w_gl, w_bin, w_neg, t_cmp, w_cmp, t_chain, w_chain, t_isC, w_isC, w_isi, t_isi, t_bop1, t_bop, w_bop1, w_bop, t_nt, w_nt, w_ite, t_ite, w_nil, w_cons, a_tup, w_fz, w_mu, a_disp, a_comp, w_ofSeq, w_call, w_prim, w_ix, w_sl, w_rev, w_pop, w_popAt, w_app, e_nop, e_int, e_var, e_bin, i_seq, a_rng, rngA_int, a_rng2, rngB_int, a_zip, zipA_some, a_enum, enA_some, src_tsI, src_lsI, t_call, t_prim, tru_bl, opt_some, t_nop, List.getElem?_cons_zero, List.getElem?_cons_succ, setTg, setTgs, List.set_cons_zero, List.set_cons_succ, wp_ok, wipeE, len0, len1, len2, len3, len4, len5, len6, len7, len8, len9, len10, if_true, if_false, Bool.false_eq_true, eq_int, ne_int, gt_int, lt_int', le_int', ge_int', add_int, sub_int, abs_int, int_int, Option.map_some, src_lst, src_tup, ix_t0, ix_t1, ix_t2, ix_t3, ix_l0, ix_l1, ix_l2, is_non, and_true, true_and])
    rw [q_asg]
    (try simp only [List.cons_append, List.nil_append, w_var, t_var, w_int, w_str, w_bl, w_non, w_gl, w_bin, w_neg, t_cmp, w_cmp, t_chain, w_chain, t_isC, w_isC, w_isi, t_isi, t_bop1, t_bop, w_bop1, w_bop, t_nt, w_nt, w_ite, t_ite, w_nil, w_cons, a_tup, w_fz, w_mu, a_disp, a_comp, w_ofSeq, w_call, w_prim, w_ix, w_sl, w_rev, w_pop, w_popAt, w_app, e_nop, e_int, e_var, e_bin, i_seq, a_rng, rngA_int, a_rng2, rngB_int, a_zip, zipA_some, a_enum, enA_some, src_tsI, src_lsI, t_call, t_prim, tru_bl, opt_some, t_nop, List.getElem?_cons_zero, List.getElem?_cons_succ, setTg, setTgs, List.set_cons_zero, List.set_cons_succ, wp_ok, wipeE, len0, len1, len2, len3, len4, len5, len6, len7, len8, len9, len10, if_true, if_false, Bool.false_eq_true, eq_int, ne_int, gt_int, lt_int', le_int', ge_int', add_int, sub_int, abs_int, int_int, Option.map_some, src_lst, src_tup, ix_t0, ix_t1, ix_t2, ix_t3, ix_l0, ix_l1, ix_l2, is_non, and_true, true_and])
    refine draw_wp h7 d (by omega) (by decide) (by decide) fun v S1 v0 v1 d1 g1 => ?_
    obtain ⟨v, rfl⟩ := Int.eq_ofNat_of_zero_le v0
    have ev1 : (1 : Int) + (v : Int) = ((v + 1 : Nat) : Int) := by omega
    (try simp only [List.cons_append, List.nil_append, w_var, t_var, w_int, w_str, w_bl, w_non, w_gl, w_bin, w_neg, t_cmp, w_cmp, t_chain, w_chain, t_isC, w_isC, w_isi, t_isi, t_bop1, t_bop, w_bop1, w_bop, t_nt, w_nt, w_ite, t_ite, w_nil, w_cons, a_tup, w_fz, w_mu, a_disp, a_comp, w_ofSeq, w_call, w_prim, w_ix, w_sl, w_rev, w_pop, w_popAt, w_app, e_nop, e_int, e_var, e_bin, i_seq, a_rng, rngA_int, a_rng2, rngB_int, a_zip, zipA_some, a_enum, enA_some, src_tsI, src_lsI, t_call, t_prim, tru_bl, opt_some, t_nop, List.getElem?_cons_zero, List.getElem?_cons_succ, setTg, setTgs, List.set_cons_zero, List.set_cons_succ, wp_ok, wipeE, len0, len1, len2, len3, len4, len5, len6, len7, len8, len9, len10, if_true, if_false, Bool.false_eq_true, eq_int, ne_int, gt_int, lt_int', le_int', ge_int', add_int, sub_int, abs_int, int_int, Option.map_some, src_lst, src_tup, ix_t0, ix_t1, ix_t2, ix_t3, ix_l0, ix_l1, ix_l2, is_non, and_true, true_and])
    rw [ev1]
    generalize hm : v + 1 = n
    have hn : 1 ≤ n ∧ n ≤ 4 := by omega
    rw [kA_eq]
    (try simp only [List.cons_append, List.nil_append, w_var, t_var, w_int, w_str, w_bl, w_non, w_gl, w_bin, w_neg, t_cmp, w_cmp, t_chain, w_chain, t_isC, w_isC, w_isi, t_isi, t_bop1, t_bop, w_bop1, w_bop, t_nt, w_nt, w_ite, t_ite, w_nil, w_cons, a_tup, w_fz, w_mu, a_disp, a_comp, w_ofSeq, w_call, w_prim, w_ix, w_sl, w_rev, w_pop, w_popAt, w_app, e_nop, e_int, e_var, e_bin, i_seq, a_rng, rngA_int, a_rng2, rngB_int, a_zip, zipA_some, a_enum, enA_some, src_tsI, src_lsI, t_call, t_prim, tru_bl, opt_some, t_nop, List.getElem?_cons_zero, List.getElem?_cons_succ, setTg, setTgs, List.set_cons_zero, List.set_cons_succ, wp_ok, wipeE, len0, len1, len2, len3, len4, len5, len6, len7, len8, len9, len10, if_true, if_false, Bool.false_eq_true, eq_int, ne_int, gt_int, lt_int', le_int', ge_int', add_int, sub_int, abs_int, int_int, Option.map_some, src_lst, src_tup, ix_t0, ix_t1, ix_t2, ix_t3, ix_l0, ix_l1, ix_l2, is_non, and_true, true_and])
    rw [q_asg]
    (try simp only [List.cons_append, List.nil_append, w_var, t_var, w_int, w_str, w_bl, w_non, w_gl, w_bin, w_neg, t_cmp, w_cmp, t_chain, w_chain, t_isC, w_isC, w_isi, t_isi, t_bop1, t_bop, w_bop1, w_bop, t_nt, w_nt, w_ite, t_ite, w_nil, w_cons, a_tup, w_fz, w_mu, a_disp, a_comp, w_ofSeq, w_call, w_prim, w_ix, w_sl, w_rev, w_pop, w_popAt, w_app, e_nop, e_int, e_var, e_bin, i_seq, a_rng, rngA_int, a_rng2, rngB_int, a_zip, zipA_some, a_enum, enA_some, src_tsI, src_lsI, t_call, t_prim, tru_bl, opt_some, t_nop, List.getElem?_cons_zero, List.getElem?_cons_succ, setTg, setTgs, List.set_cons_zero, List.set_cons_succ, wp_ok, wipeE, len0, len1, len2, len3, len4, len5, len6, len7, len8, len9, len10, if_true, if_false, Bool.false_eq_true, eq_int, ne_int, gt_int, lt_int', le_int', ge_int', add_int, sub_int, abs_int, int_int, Option.map_some, src_lst, src_tup, ix_t0, ix_t1, ix_t2, ix_t3, ix_l0, ix_l1, ix_l2, is_non, and_true, true_and])
    refine draw_wp h7 d1 (by omega) (by decide) (by decide) fun m S2 m0 m1 d2 g2 => ?_
    obtain ⟨m, rfl⟩ := Int.eq_ofNat_of_zero_le m0
    (try simp only [List.cons_append, List.nil_append, w_var, t_var, w_int, w_str, w_bl, w_non, w_gl, w_bin, w_neg, t_cmp, w_cmp, t_chain, w_chain, t_isC, w_isC, w_isi, t_isi, t_bop1, t_bop, w_bop1, w_bop, t_nt, w_nt, w_ite, t_ite, w_nil, w_cons, a_tup, w_fz, w_mu, a_disp, a_comp, w_ofSeq, w_call, w_prim, w_ix, w_sl, w_rev, w_pop, w_popAt, w_app, e_nop, e_int, e_var, e_bin, i_seq, a_rng, rngA_int, a_rng2, rngB_int, a_zip, zipA_some, a_enum, enA_some, src_tsI, src_lsI, t_call, t_prim, tru_bl, opt_some, t_nop, List.getElem?_cons_zero, List.getElem?_cons_succ, setTg, setTgs, List.set_cons_zero, List.set_cons_succ, wp_ok, wipeE, len0, len1, len2, len3, len4, len5, len6, len7, len8, len9, len10, if_true, if_false, Bool.false_eq_true, eq_int, ne_int, gt_int, lt_int', le_int', ge_int', add_int, sub_int, abs_int, int_int, Option.map_some, src_lst, src_tup, ix_t0, ix_t1, ix_t2, ix_t3, ix_l0, ix_l1, ix_l2, is_non, and_true, true_and])
    refine ⟨by omega, by rw [rngT_len']; simp [lim]; omega, ?_⟩
    have hm2 : ((m : Nat) : Int).toNat = m := by omega
    rw [hm2]
    refine comp_drawn (b := 1100 * dn.length + 2) (k := 8) (fun _ y => ∃ c : List Int, y = tsI c ∧ c.length = n ∧ ∀ x ∈ c, Bd 5 x) (by rw [rngT_len']; omega) d2 ?_ ?_
    · intro t ht b' S' hb' d' g'
      (try simp only [List.cons_append, List.nil_append, w_var, t_var, w_int, w_str, w_bl, w_non, w_gl, w_bin, w_neg, t_cmp, w_cmp, t_chain, w_chain, t_isC, w_isC, w_isi, t_isi, t_bop1, t_bop, w_bop1, w_bop, t_nt, w_nt, w_ite, t_ite, w_nil, w_cons, a_tup, w_fz, w_mu, a_disp, a_comp, w_ofSeq, w_call, w_prim, w_ix, w_sl, w_rev, w_pop, w_popAt, w_app, e_nop, e_int, e_var, e_bin, i_seq, a_rng, rngA_int, a_rng2, rngB_int, a_zip, zipA_some, a_enum, enA_some, src_tsI, src_lsI, t_call, t_prim, tru_bl, opt_some, t_nop, List.getElem?_cons_zero, List.getElem?_cons_succ, setTg, setTgs, List.set_cons_zero, List.set_cons_succ, wp_ok, wipeE, len0, len1, len2, len3, len4, len5, len6, len7, len8, len9, len10, if_true, if_false, Bool.false_eq_true, eq_int, ne_int, gt_int, lt_int', le_int', ge_int', add_int, sub_int, abs_int, int_int, Option.map_some, src_lst, src_tup, ix_t0, ix_t1, ix_t2, ix_t3, ix_l0, ix_l1, ix_l2, is_non, and_true, true_and])
      refine wp_mono (h9 S' b' n d' (by omega) (by omega)) ?_
      rintro t S3 ⟨⟨ws, rfl, hwl, hwb⟩, d3, g3⟩
      exact ⟨⟨ws, rfl, hwl, fun x hx => Bd.of (m := 20) (by have := hwb x hx; omega) (by decide)⟩, d3.mono (by omega), g3⟩
    · intro ys S3 hyl hyV d3 g3
      rw [rngT_len'] at hyl d3
      obtain ⟨rs, rfl, hrs⟩ := rows_in (P := fun c => c.length = n ∧ ∀ x ∈ c, Bd 5 x) (zip_right (P := fun y => ∃ c : List Int, y = tsI c ∧ c.length = n ∧ ∀ x ∈ c, Bd 5 x) (by rw [rngT_len', hyl]) hyV)
      rw [List.length_map] at hyl
      (try simp only [List.cons_append, List.nil_append, w_var, t_var, w_int, w_str, w_bl, w_non, w_gl, w_bin, w_neg, t_cmp, w_cmp, t_chain, w_chain, t_isC, w_isC, w_isi, t_isi, t_bop1, t_bop, w_bop1, w_bop, t_nt, w_nt, w_ite, t_ite, w_nil, w_cons, a_tup, w_fz, w_mu, a_disp, a_comp, w_ofSeq, w_call, w_prim, w_ix, w_sl, w_rev, w_pop, w_popAt, w_app, e_nop, e_int, e_var, e_bin, i_seq, a_rng, rngA_int, a_rng2, rngB_int, a_zip, zipA_some, a_enum, enA_some, src_tsI, src_lsI, t_call, t_prim, tru_bl, opt_some, t_nop, List.getElem?_cons_zero, List.getElem?_cons_succ, setTg, setTgs, List.set_cons_zero, List.set_cons_succ, wp_ok, wipeE, len0, len1, len2, len3, len4, len5, len6, len7, len8, len9, len10, if_true, if_false, Bool.false_eq_true, eq_int, ne_int, gt_int, lt_int', le_int', ge_int', add_int, sub_int, abs_int, int_int, Option.map_some, src_lst, src_tup, ix_t0, ix_t1, ix_t2, ix_t3, ix_l0, ix_l1, ix_l2, is_non, and_true, true_and, tup_lst])
      -- behind the rows
      have behind : ∀ (D : Po) (R : List (List Int)) (b' : Nat) (S' : Sto) (j2 j5 j6 j7 j8 j9 j10 : Option Tv), R.length ≤ 4 → (∀ r ∈ R, r.length = n ∧ ∀ x ∈ r, Bd 8 x) → b' ≤ 1100 * dn.length + 50 → Dk b' S' →
          (∀ (env : Env) (S : Sto), (Dk (1100 * (dn ++ [i]).length) S ∧ (dn ++ [i]).length + r.length = 8 ∧ ∃ j2 j3 j4 j5 j6 j7 j8 j9 j10 : Option Tv, env = [some (.scr (ns.map Tv.int)), some (.cell 1), j2, j3, j4, j5, j6, j7, j8, j9, j10]) → D.nx env S) →
          (exs cf Fu [.asg (.v 5) (.call 18 [(.var 4)]),
            .forS (.v 6) (.seq (.call 23 [(.var 1), (.bin .add (.var 4) (.var 5)), (.var 3)]))
              [
                .ifS (.cmp .ne (.call 22 [(.var 4), (.var 6)]) (.call 22 [(.var 5), (.var 6)]))
                  [
                    .ret (.bl false)]
                  []]] [some (.scr (ns.map Tv.int)), some (.cell 1), j2, some (.int n), some (.tup (R.map tsI)), j5, j6, j7, j8, j9, j10] S').wp D := by
        intro D R b' S' j2 j5 j6 j7 j8 j9 j10 lR hR hb' d' hD
        have b8 : Bs 8 R.length ≤ 143 := Nat.le_trans (Bs_mono 8 lR) (by decide)
        have got : cf 18 [.tup (R.map tsI)] S' = .ok (.tup ((Qr.red R).map tsI)) S' := by
          rw [e18]
          exact reduced_bd rd hR (by omega) (by omega) (by omega)
        obtain ⟨rb, rl⟩ := red_bd (b := 8) (rs := R) fun r hr => (hR r hr).2
        have ok := Qr.red_ok (n := n) (rs := R) fun r hr => (hR r hr).1
        have hRR : ∀ r ∈ R ++ Qr.red R, r.length = n ∧ ∀ x ∈ r, Bd 143 x := fun r hr => by
          rcases List.mem_append.mp hr with e | e
          · exact ⟨(hR r e).1, fun x hx => ((hR r e).2 x hx).mono (by omega)⟩
          · exact ⟨ok.len r e, fun x hx => (rb r e x hx).mono b8⟩
        rw [q_asg]
        (try simp only [List.cons_append, List.nil_append, w_var, t_var, w_int, w_str, w_bl, w_non, w_gl, w_bin, w_neg, t_cmp, w_cmp, t_chain, w_chain, t_isC, w_isC, w_isi, t_isi, t_bop1, t_bop, w_bop1, w_bop, t_nt, w_nt, w_ite, t_ite, w_nil, w_cons, a_tup, w_fz, w_mu, a_disp, a_comp, w_ofSeq, w_call, w_prim, w_ix, w_sl, w_rev, w_pop, w_popAt, w_app, e_nop, e_int, e_var, e_bin, i_seq, a_rng, rngA_int, a_rng2, rngB_int, a_zip, zipA_some, a_enum, enA_some, src_tsI, src_lsI, t_call, t_prim, tru_bl, opt_some, t_nop, List.getElem?_cons_zero, List.getElem?_cons_succ, setTg, setTgs, List.set_cons_zero, List.set_cons_succ, wp_ok, wipeE, len0, len1, len2, len3, len4, len5, len6, len7, len8, len9, len10, if_true, if_false, Bool.false_eq_true, eq_int, ne_int, gt_int, lt_int', le_int', ge_int', add_int, sub_int, abs_int, int_int, Option.map_some, src_lst, src_tup, ix_t0, ix_t1, ix_t2, ix_t3, ix_l0, ix_l1, ix_l2, is_non, and_true, true_and, got])
        rw [kA_eq]
        (try simp only [List.cons_append, List.nil_append, w_var, t_var, w_int, w_str, w_bl, w_non, w_gl, w_bin, w_neg, t_cmp, w_cmp, t_chain, w_chain, t_isC, w_isC, w_isi, t_isi, t_bop1, t_bop, w_bop1, w_bop, t_nt, w_nt, w_ite, t_ite, w_nil, w_cons, a_tup, w_fz, w_mu, a_disp, a_comp, w_ofSeq, w_call, w_prim, w_ix, w_sl, w_rev, w_pop, w_popAt, w_app, e_nop, e_int, e_var, e_bin, i_seq, a_rng, rngA_int, a_rng2, rngB_int, a_zip, zipA_some, a_enum, enA_some, src_tsI, src_lsI, t_call, t_prim, tru_bl, opt_some, t_nop, List.getElem?_cons_zero, List.getElem?_cons_succ, setTg, setTgs, List.set_cons_zero, List.set_cons_succ, wp_ok, wipeE, len0, len1, len2, len3, len4, len5, len6, len7, len8, len9, len10, if_true, if_false, Bool.false_eq_true, eq_int, ne_int, gt_int, lt_int', le_int', ge_int', add_int, sub_int, abs_int, int_int, Option.map_some, src_lst, src_tup, ix_t0, ix_t1, ix_t2, ix_t3, ix_l0, ix_l1, ix_l2, is_non, and_true, true_and])
        rw [q_for]
        (try simp only [List.cons_append, List.nil_append, w_var, t_var, w_int, w_str, w_bl, w_non, w_gl, w_bin, w_neg, t_cmp, w_cmp, t_chain, w_chain, t_isC, w_isC, w_isi, t_isi, t_bop1, t_bop, w_bop1, w_bop, t_nt, w_nt, w_ite, t_ite, w_nil, w_cons, a_tup, w_fz, w_mu, a_disp, a_comp, w_ofSeq, w_call, w_prim, w_ix, w_sl, w_rev, w_pop, w_popAt, w_app, e_nop, e_int, e_var, e_bin, i_seq, a_rng, rngA_int, a_rng2, rngB_int, a_zip, zipA_some, a_enum, enA_some, src_tsI, src_lsI, t_call, t_prim, tru_bl, opt_some, t_nop, List.getElem?_cons_zero, List.getElem?_cons_succ, setTg, setTgs, List.set_cons_zero, List.set_cons_succ, wp_ok, wipeE, len0, len1, len2, len3, len4, len5, len6, len7, len8, len9, len10, if_true, if_false, Bool.false_eq_true, eq_int, ne_int, gt_int, lt_int', le_int', ge_int', add_int, sub_int, abs_int, int_int, Option.map_some, src_lst, src_tup, ix_t0, ix_t1, ix_t2, ix_t3, ix_l0, ix_l1, ix_l2, is_non, and_true, true_and, add_tup (S := S') (A := R.map tsI) (B := (Qr.red R).map tsI) (by rw [List.length_map, List.length_map]; omega)])
        rw [← List.map_append]
        refine wp_mono (h23 S' b' n 143 (R ++ Qr.red R) d' (by omega) hRR (by omega) (by rw [List.length_append]; omega) (by omega)) ?_
        rintro t S4 ⟨⟨q, cs, rfl, oq, lcs, hcs⟩, d4, g4⟩
        (try simp only [List.cons_append, List.nil_append, w_var, t_var, w_int, w_str, w_bl, w_non, w_gl, w_bin, w_neg, t_cmp, w_cmp, t_chain, w_chain, t_isC, w_isC, w_isi, t_isi, t_bop1, t_bop, w_bop1, w_bop, t_nt, w_nt, w_ite, t_ite, w_nil, w_cons, a_tup, w_fz, w_mu, a_disp, a_comp, w_ofSeq, w_call, w_prim, w_ix, w_sl, w_rev, w_pop, w_popAt, w_app, e_nop, e_int, e_var, e_bin, i_seq, a_rng, rngA_int, a_rng2, rngB_int, a_zip, zipA_some, a_enum, enA_some, src_tsI, src_lsI, t_call, t_prim, tru_bl, opt_some, t_nop, List.getElem?_cons_zero, List.getElem?_cons_succ, setTg, setTgs, List.set_cons_zero, List.set_cons_succ, wp_ok, wipeE, len0, len1, len2, len3, len4, len5, len6, len7, len8, len9, len10, if_true, if_false, Bool.false_eq_true, eq_int, ne_int, gt_int, lt_int', le_int', ge_int', add_int, sub_int, abs_int, int_int, Option.map_some, src_lst, src_tup, ix_t0, ix_t1, ix_t2, ix_t3, ix_l0, ix_l1, ix_l2, is_non, and_true, true_and, src_cell oq])
        rw [kF_eq]
        refine for_on (fun dn r env S => S = S4 ∧ ∃ j6, env = [some (.scr (ns.map Tv.int)), some (.cell 1), j2, some (.int n), some (.tup (R.map tsI)), some (.tup ((Qr.red R).map tsI)), j6, j7, j8, j9, j10]) (fun _ _ _ _ h => by rw [h.1]; exact stays_cell oq) ?_ ?_ ⟨rfl, _, rfl⟩
        · rintro dn2 c r2 env S5 hx ⟨rfl, j6, rfl⟩
          obtain ⟨lc, bc⟩ := hcs c (by rw [hx]; simp)
          have s1 := h22 S5 R c 8 145 (fun r hr => ⟨by rw [(hR r hr).1]; omega, (hR r hr).2⟩) bc (by omega)
          have s2 := h22 S5 (Qr.red R) c 143 145 (fun r hr => ⟨by rw [ok.len r hr]; omega, fun x hx => (rb r hr x hx).mono b8⟩) bc (by omega)
          have e := Qr.lex_red (n := n) (v := c) (rs := R) fun r hr => (hR r hr).1
          (try simp only [List.cons_append, List.nil_append, w_var, t_var, w_int, w_str, w_bl, w_non, w_gl, w_bin, w_neg, t_cmp, w_cmp, t_chain, w_chain, t_isC, w_isC, w_isi, t_isi, t_bop1, t_bop, w_bop1, w_bop, t_nt, w_nt, w_ite, t_ite, w_nil, w_cons, a_tup, w_fz, w_mu, a_disp, a_comp, w_ofSeq, w_call, w_prim, w_ix, w_sl, w_rev, w_pop, w_popAt, w_app, e_nop, e_int, e_var, e_bin, i_seq, a_rng, rngA_int, a_rng2, rngB_int, a_zip, zipA_some, a_enum, enA_some, src_tsI, src_lsI, t_call, t_prim, tru_bl, opt_some, t_nop, List.getElem?_cons_zero, List.getElem?_cons_succ, setTg, setTgs, List.set_cons_zero, List.set_cons_succ, wp_ok, wipeE, len0, len1, len2, len3, len4, len5, len6, len7, len8, len9, len10, if_true, if_false, Bool.false_eq_true, eq_int, ne_int, gt_int, lt_int', le_int', ge_int', add_int, sub_int, abs_int, int_int, Option.map_some, src_lst, src_tup, ix_t0, ix_t1, ix_t2, ix_t3, ix_l0, ix_l1, ix_l2, is_non, and_true, true_and])
          rw [q_if]
          (try simp only [List.cons_append, List.nil_append, w_var, t_var, w_int, w_str, w_bl, w_non, w_gl, w_bin, w_neg, t_cmp, w_cmp, t_chain, w_chain, t_isC, w_isC, w_isi, t_isi, t_bop1, t_bop, w_bop1, w_bop, t_nt, w_nt, w_ite, t_ite, w_nil, w_cons, a_tup, w_fz, w_mu, a_disp, a_comp, w_ofSeq, w_call, w_prim, w_ix, w_sl, w_rev, w_pop, w_popAt, w_app, e_nop, e_int, e_var, e_bin, i_seq, a_rng, rngA_int, a_rng2, rngB_int, a_zip, zipA_some, a_enum, enA_some, src_tsI, src_lsI, t_call, t_prim, tru_bl, opt_some, t_nop, List.getElem?_cons_zero, List.getElem?_cons_succ, setTg, setTgs, List.set_cons_zero, List.set_cons_succ, wp_ok, wipeE, len0, len1, len2, len3, len4, len5, len6, len7, len8, len9, len10, if_true, if_false, Bool.false_eq_true, eq_int, ne_int, gt_int, lt_int', le_int', ge_int', add_int, sub_int, abs_int, int_int, Option.map_some, src_lst, src_tup, ix_t0, ix_t1, ix_t2, ix_t3, ix_l0, ix_l1, ix_l2, is_non, and_true, true_and, s1, s2, e])
          rw [show (!(Qr.lex c R == Qr.lex c R)) = false by simp, kI_f]
          (try simp only [exs_nil, q_asg, kA_eq, kR_eq, q_drop, kD_eq, q_ret, q_if, kI_t, kI_f, q_set, kS_eq, q_pass, q_brk, q_cont, q_for, kF_eq, List.cons_append, List.nil_append, w_var, t_var, w_int, w_str, w_bl, w_non, w_gl, w_bin, w_neg, t_cmp, w_cmp, t_chain, w_chain, t_isC, w_isC, w_isi, t_isi, t_bop1, t_bop, w_bop1, w_bop, t_nt, w_nt, w_ite, t_ite, w_nil, w_cons, a_tup, w_fz, w_mu, a_disp, a_comp, w_ofSeq, w_call, w_prim, w_ix, w_sl, w_rev, w_pop, w_popAt, w_app, e_nop, e_int, e_var, e_bin, i_seq, a_rng, rngA_int, a_rng2, rngB_int, a_zip, zipA_some, a_enum, enA_some, src_tsI, src_lsI, t_call, t_prim, tru_bl, opt_some, t_nop, List.getElem?_cons_zero, List.getElem?_cons_succ, setTg, setTgs, List.set_cons_zero, List.set_cons_succ, wp_ok, wipeE, len0, len1, len2, len3, len4, len5, len6, len7, len8, len9, len10, if_true, if_false, Bool.false_eq_true, eq_int, ne_int, gt_int, lt_int', le_int', ge_int', add_int, sub_int, abs_int, int_int, Option.map_some, src_lst, src_tup, ix_t0, ix_t1, ix_t2, ix_t3, ix_l0, ix_l1, ix_l2, is_non, and_true, true_and])
          exact ⟨_, rfl⟩
        · rintro env S5 ⟨rfl, j6, rfl⟩
          show kR _ _ _ _ _ _
          rw [kR_eq, exs_nil]
          exact hD _ _ ⟨d4.mono (by rw [List.length_append, List.length_singleton]; omega), by rw [List.length_append, List.length_singleton]; omega, _, _, _, _, _, _, _, _, _, rfl⟩
      rw [kA_eq]
      (try simp only [List.cons_append, List.nil_append, w_var, t_var, w_int, w_str, w_bl, w_non, w_gl, w_bin, w_neg, t_cmp, w_cmp, t_chain, w_chain, t_isC, w_isC, w_isi, t_isi, t_bop1, t_bop, w_bop1, w_bop, t_nt, w_nt, w_ite, t_ite, w_nil, w_cons, a_tup, w_fz, w_mu, a_disp, a_comp, w_ofSeq, w_call, w_prim, w_ix, w_sl, w_rev, w_pop, w_popAt, w_app, e_nop, e_int, e_var, e_bin, i_seq, a_rng, rngA_int, a_rng2, rngB_int, a_zip, zipA_some, a_enum, enA_some, src_tsI, src_lsI, t_call, t_prim, tru_bl, opt_some, t_nop, List.getElem?_cons_zero, List.getElem?_cons_succ, setTg, setTgs, List.set_cons_zero, List.set_cons_succ, wp_ok, wipeE, len0, len1, len2, len3, len4, len5, len6, len7, len8, len9, len10, if_true, if_false, Bool.false_eq_true, eq_int, ne_int, gt_int, lt_int', le_int', ge_int', add_int, sub_int, abs_int, int_int, Option.map_some, src_lst, src_tup, ix_t0, ix_t1, ix_t2, ix_t3, ix_l0, ix_l1, ix_l2, is_non, and_true, true_and])
      rw [q_if]
      (try simp only [List.cons_append, List.nil_append, w_var, t_var, w_int, w_str, w_bl, w_non, w_gl, w_bin, w_neg, t_cmp, w_cmp, t_chain, w_chain, t_isC, w_isC, w_isi, t_isi, t_bop1, t_bop, w_bop1, w_bop, t_nt, w_nt, w_ite, t_ite, w_nil, w_cons, a_tup, w_fz, w_mu, a_disp, a_comp, w_ofSeq, w_call, w_prim, w_ix, w_sl, w_rev, w_pop, w_popAt, w_app, e_nop, e_int, e_var, e_bin, i_seq, a_rng, rngA_int, a_rng2, rngB_int, a_zip, zipA_some, a_enum, enA_some, src_tsI, src_lsI, t_call, t_prim, tru_bl, opt_some, t_nop, List.getElem?_cons_zero, List.getElem?_cons_succ, setTg, setTgs, List.set_cons_zero, List.set_cons_succ, wp_ok, wipeE, len0, len1, len2, len3, len4, len5, len6, len7, len8, len9, len10, if_true, if_false, Bool.false_eq_true, eq_int, ne_int, gt_int, lt_int', le_int', ge_int', add_int, sub_int, abs_int, int_int, Option.map_some, src_lst, src_tup, ix_t0, ix_t1, ix_t2, ix_t3, ix_l0, ix_l1, ix_l2, is_non, and_true, true_and, ne_tup0])
      cases hF : rs.isEmpty with
      | true =>
        (try simp only [List.cons_append, List.nil_append, w_var, t_var, w_int, w_str, w_bl, w_non, w_gl, w_bin, w_neg, t_cmp, w_cmp, t_chain, w_chain, t_isC, w_isC, w_isi, t_isi, t_bop1, t_bop, w_bop1, w_bop, t_nt, w_nt, w_ite, t_ite, w_nil, w_cons, a_tup, w_fz, w_mu, a_disp, a_comp, w_ofSeq, w_call, w_prim, w_ix, w_sl, w_rev, w_pop, w_popAt, w_app, e_nop, e_int, e_var, e_bin, i_seq, a_rng, rngA_int, a_rng2, rngB_int, a_zip, zipA_some, a_enum, enA_some, src_tsI, src_lsI, t_call, t_prim, tru_bl, opt_some, t_nop, List.getElem?_cons_zero, List.getElem?_cons_succ, setTg, setTgs, List.set_cons_zero, List.set_cons_succ, wp_ok, wipeE, len0, len1, len2, len3, len4, len5, len6, len7, len8, len9, len10, if_true, if_false, Bool.false_eq_true, eq_int, ne_int, gt_int, lt_int', le_int', ge_int', add_int, sub_int, abs_int, int_int, Option.map_some, src_lst, src_tup, ix_t0, ix_t1, ix_t2, ix_t3, ix_l0, ix_l1, ix_l2, is_non, and_true, true_and, Bool.not_true])
        rw [kI_f, List.nil_append]
        exact behind _ rs _ S3 _ _ _ _ _ _ _ (by omega) (fun r hr => ⟨(hrs r hr).1, fun x hx => ((hrs r hr).2 x hx).mono (by omega)⟩) (by omega) d3 fun _ _ h => h
      | false =>
        (try simp only [List.cons_append, List.nil_append, w_var, t_var, w_int, w_str, w_bl, w_non, w_gl, w_bin, w_neg, t_cmp, w_cmp, t_chain, w_chain, t_isC, w_isC, w_isi, t_isi, t_bop1, t_bop, w_bop1, w_bop, t_nt, w_nt, w_ite, t_ite, w_nil, w_cons, a_tup, w_fz, w_mu, a_disp, a_comp, w_ofSeq, w_call, w_prim, w_ix, w_sl, w_rev, w_pop, w_popAt, w_app, e_nop, e_int, e_var, e_bin, i_seq, a_rng, rngA_int, a_rng2, rngB_int, a_zip, zipA_some, a_enum, enA_some, src_tsI, src_lsI, t_call, t_prim, tru_bl, opt_some, t_nop, List.getElem?_cons_zero, List.getElem?_cons_succ, setTg, setTgs, List.set_cons_zero, List.set_cons_succ, wp_ok, wipeE, len0, len1, len2, len3, len4, len5, len6, len7, len8, len9, len10, if_true, if_false, Bool.false_eq_true, eq_int, ne_int, gt_int, lt_int', le_int', ge_int', add_int, sub_int, abs_int, int_int, Option.map_some, src_lst, src_tup, ix_t0, ix_t1, ix_t2, ix_t3, ix_l0, ix_l1, ix_l2, is_non, and_true, true_and, Bool.not_false])
        refine draw_wp h7 d3 (by omega) (by decide) (by decide) fun w S4 w0 w1 d4 g4 => ?_
        (try simp only [List.cons_append, List.nil_append, w_var, t_var, w_int, w_str, w_bl, w_non, w_gl, w_bin, w_neg, t_cmp, w_cmp, t_chain, w_chain, t_isC, w_isC, w_isi, t_isi, t_bop1, t_bop, w_bop1, w_bop, t_nt, w_nt, w_ite, t_ite, w_nil, w_cons, a_tup, w_fz, w_mu, a_disp, a_comp, w_ofSeq, w_call, w_prim, w_ix, w_sl, w_rev, w_pop, w_popAt, w_app, e_nop, e_int, e_var, e_bin, i_seq, a_rng, rngA_int, a_rng2, rngB_int, a_zip, zipA_some, a_enum, enA_some, src_tsI, src_lsI, t_call, t_prim, tru_bl, opt_some, t_nop, List.getElem?_cons_zero, List.getElem?_cons_succ, setTg, setTgs, List.set_cons_zero, List.set_cons_succ, wp_ok, wipeE, len0, len1, len2, len3, len4, len5, len6, len7, len8, len9, len10, if_true, if_false, Bool.false_eq_true, eq_int, ne_int, gt_int, lt_int', le_int', ge_int', add_int, sub_int, abs_int, int_int, Option.map_some, src_lst, src_tup, ix_t0, ix_t1, ix_t2, ix_t3, ix_l0, ix_l1, ix_l2, is_non, and_true, true_and])
        by_cases hw : w = 0
        · rw [show (w == 0) = true by simp [hw], kI_t, List.cons_append, List.cons_append, List.nil_append, q_asg]
          obtain ⟨r0, rs', hrs0⟩ : ∃ r0 rs', rs = r0 :: rs' := by
            cases rs with
            | nil => cases hF
            | cons a b => exact ⟨a, b, rfl⟩
          obtain ⟨rs2, rl, hrsl⟩ : ∃ rs2 rl, rs = rs2 ++ [rl] := ⟨rs.dropLast, rs.getLast (by rw [hrs0]; simp), (List.dropLast_concat_getLast _).symm⟩
          have i0 : ixV S4 (.tup (rs.map tsI)) (.int 0) = some (tsI r0) := by rw [hrs0, List.map_cons]; exact ix_t0
          have i1 : ixV S4 (.tup (rs.map tsI)) (.int (-1)) = some (tsI rl) := by
            rw [hrsl, List.map_append]
            exact L2.atI_last _ _
          obtain ⟨l0, b0⟩ := hrs r0 (by rw [hrs0]; simp)
          obtain ⟨ll, bl⟩ := hrs rl (by rw [hrsl]; simp)
          have l1 : (((r0.zip rl).map pr).length ≤ lim) = True := len_map (by rw [List.length_zip]; omega)
          (try simp only [List.cons_append, List.nil_append, w_var, t_var, w_int, w_str, w_bl, w_non, w_gl, w_bin, w_neg, t_cmp, w_cmp, t_chain, w_chain, t_isC, w_isC, w_isi, t_isi, t_bop1, t_bop, w_bop1, w_bop, t_nt, w_nt, w_ite, t_ite, w_nil, w_cons, a_tup, w_fz, w_mu, a_disp, a_comp, w_ofSeq, w_call, w_prim, w_ix, w_sl, w_rev, w_pop, w_popAt, w_app, e_nop, e_int, e_var, e_bin, i_seq, a_rng, rngA_int, a_rng2, rngB_int, a_zip, zipA_some, a_enum, enA_some, src_tsI, src_lsI, t_call, t_prim, tru_bl, opt_some, t_nop, List.getElem?_cons_zero, List.getElem?_cons_succ, setTg, setTgs, List.set_cons_zero, List.set_cons_succ, wp_ok, wipeE, len0, len1, len2, len3, len4, len5, len6, len7, len8, len9, len10, if_true, if_false, Bool.false_eq_true, eq_int, ne_int, gt_int, lt_int', le_int', ge_int', add_int, sub_int, abs_int, int_int, Option.map_some, src_lst, src_tup, ix_t0, ix_t1, ix_t2, ix_t3, ix_l0, ix_l1, ix_l2, is_non, and_true, true_and, i0, i1, zipT_pr, l1])
          rw [comp_all (fun p : Int × Int => Tv.int (p.1 + 2 * p.2)) rfl (fun p hp => by
            have m1 : ∀ S, binV .mul S (.int 2) (.int p.2) = some (.int (2 * p.2)) := fun S => mul_bd (k := 2) (by unfold Bd; decide) (bl _ (List.of_mem_zip hp).2) (by omega)
            (try simp only [exs_nil, q_asg, kA_eq, kR_eq, q_drop, kD_eq, q_ret, q_if, kI_t, kI_f, q_set, kS_eq, q_pass, q_brk, q_cont, q_for, kF_eq, List.cons_append, List.nil_append, w_var, t_var, w_int, w_str, w_bl, w_non, w_gl, w_bin, w_neg, t_cmp, w_cmp, t_chain, w_chain, t_isC, w_isC, w_isi, t_isi, t_bop1, t_bop, w_bop1, w_bop, t_nt, w_nt, w_ite, t_ite, w_nil, w_cons, a_tup, w_fz, w_mu, a_disp, a_comp, w_ofSeq, w_call, w_prim, w_ix, w_sl, w_rev, w_pop, w_popAt, w_app, e_nop, e_int, e_var, e_bin, i_seq, a_rng, rngA_int, a_rng2, rngB_int, a_zip, zipA_some, a_enum, enA_some, src_tsI, src_lsI, t_call, t_prim, tru_bl, opt_some, t_nop, List.getElem?_cons_zero, List.getElem?_cons_succ, setTg, setTgs, List.set_cons_zero, List.set_cons_succ, wp_ok, wipeE, len0, len1, len2, len3, len4, len5, len6, len7, len8, len9, len10, if_true, if_false, Bool.false_eq_true, eq_int, ne_int, gt_int, lt_int', le_int', ge_int', add_int, sub_int, abs_int, int_int, Option.map_some, src_lst, src_tup, ix_t0, ix_t1, ix_t2, ix_t3, ix_l0, ix_l1, ix_l2, is_non, and_true, true_and, pr, m1]))]
          have e : ((r0.zip rl).map fun p : Int × Int => Tv.int (p.1 + 2 * p.2)) = (List.zipWith (fun x y => x + 2 * y) r0 rl).map Tv.int := by
            rw [← List.map_uncurry_zip_eq_zipWith, List.map_map]
            rfl
          rw [e]
          (try simp only [List.cons_append, List.nil_append, w_var, t_var, w_int, w_str, w_bl, w_non, w_gl, w_bin, w_neg, t_cmp, w_cmp, t_chain, w_chain, t_isC, w_isC, w_isi, t_isi, t_bop1, t_bop, w_bop1, w_bop, t_nt, w_nt, w_ite, t_ite, w_nil, w_cons, a_tup, w_fz, w_mu, a_disp, a_comp, w_ofSeq, w_call, w_prim, w_ix, w_sl, w_rev, w_pop, w_popAt, w_app, e_nop, e_int, e_var, e_bin, i_seq, a_rng, rngA_int, a_rng2, rngB_int, a_zip, zipA_some, a_enum, enA_some, src_tsI, src_lsI, t_call, t_prim, tru_bl, opt_some, t_nop, List.getElem?_cons_zero, List.getElem?_cons_succ, setTg, setTgs, List.set_cons_zero, List.set_cons_succ, wp_ok, wipeE, len0, len1, len2, len3, len4, len5, len6, len7, len8, len9, len10, if_true, if_false, Bool.false_eq_true, eq_int, ne_int, gt_int, lt_int', le_int', ge_int', add_int, sub_int, abs_int, int_int, Option.map_some, src_lst, src_tup, ix_t0, ix_t1, ix_t2, ix_t3, ix_l0, ix_l1, ix_l2, is_non, and_true, true_and, tup_lst])
          rw [kA_eq]
          (try simp only [List.cons_append, List.nil_append, w_var, t_var, w_int, w_str, w_bl, w_non, w_gl, w_bin, w_neg, t_cmp, w_cmp, t_chain, w_chain, t_isC, w_isC, w_isi, t_isi, t_bop1, t_bop, w_bop1, w_bop, t_nt, w_nt, w_ite, t_ite, w_nil, w_cons, a_tup, w_fz, w_mu, a_disp, a_comp, w_ofSeq, w_call, w_prim, w_ix, w_sl, w_rev, w_pop, w_popAt, w_app, e_nop, e_int, e_var, e_bin, i_seq, a_rng, rngA_int, a_rng2, rngB_int, a_zip, zipA_some, a_enum, enA_some, src_tsI, src_lsI, t_call, t_prim, tru_bl, opt_some, t_nop, List.getElem?_cons_zero, List.getElem?_cons_succ, setTg, setTgs, List.set_cons_zero, List.set_cons_succ, wp_ok, wipeE, len0, len1, len2, len3, len4, len5, len6, len7, len8, len9, len10, if_true, if_false, Bool.false_eq_true, eq_int, ne_int, gt_int, lt_int', le_int', ge_int', add_int, sub_int, abs_int, int_int, Option.map_some, src_lst, src_tup, ix_t0, ix_t1, ix_t2, ix_t3, ix_l0, ix_l1, ix_l2, is_non, and_true, true_and])
          rw [q_asg]
          (try simp only [List.cons_append, List.nil_append, w_var, t_var, w_int, w_str, w_bl, w_non, w_gl, w_bin, w_neg, t_cmp, w_cmp, t_chain, w_chain, t_isC, w_isC, w_isi, t_isi, t_bop1, t_bop, w_bop1, w_bop, t_nt, w_nt, w_ite, t_ite, w_nil, w_cons, a_tup, w_fz, w_mu, a_disp, a_comp, w_ofSeq, w_call, w_prim, w_ix, w_sl, w_rev, w_pop, w_popAt, w_app, e_nop, e_int, e_var, e_bin, i_seq, a_rng, rngA_int, a_rng2, rngB_int, a_zip, zipA_some, a_enum, enA_some, src_tsI, src_lsI, t_call, t_prim, tru_bl, opt_some, t_nop, List.getElem?_cons_zero, List.getElem?_cons_succ, setTg, setTgs, List.set_cons_zero, List.set_cons_succ, wp_ok, wipeE, len0, len1, len2, len3, len4, len5, len6, len7, len8, len9, len10, if_true, if_false, Bool.false_eq_true, eq_int, ne_int, gt_int, lt_int', le_int', ge_int', add_int, sub_int, abs_int, int_int, Option.map_some, src_lst, src_tup, ix_t0, ix_t1, ix_t2, ix_t3, ix_l0, ix_l1, ix_l2, is_non, and_true, true_and, add_tup (S := S4) (A := rs.map tsI) (B := [.tup ((List.zipWith (fun x y => x + 2 * y) r0 rl).map Tv.int)]) (by rw [List.length_map, List.length_singleton]; omega)])
          rw [kA_eq]
          (try simp only [List.cons_append, List.nil_append, w_var, t_var, w_int, w_str, w_bl, w_non, w_gl, w_bin, w_neg, t_cmp, w_cmp, t_chain, w_chain, t_isC, w_isC, w_isi, t_isi, t_bop1, t_bop, w_bop1, w_bop, t_nt, w_nt, w_ite, t_ite, w_nil, w_cons, a_tup, w_fz, w_mu, a_disp, a_comp, w_ofSeq, w_call, w_prim, w_ix, w_sl, w_rev, w_pop, w_popAt, w_app, e_nop, e_int, e_var, e_bin, i_seq, a_rng, rngA_int, a_rng2, rngB_int, a_zip, zipA_some, a_enum, enA_some, src_tsI, src_lsI, t_call, t_prim, tru_bl, opt_some, t_nop, List.getElem?_cons_zero, List.getElem?_cons_succ, setTg, setTgs, List.set_cons_zero, List.set_cons_succ, wp_ok, wipeE, len0, len1, len2, len3, len4, len5, len6, len7, len8, len9, len10, if_true, if_false, Bool.false_eq_true, eq_int, ne_int, gt_int, lt_int', le_int', ge_int', add_int, sub_int, abs_int, int_int, Option.map_some, src_lst, src_tup, ix_t0, ix_t1, ix_t2, ix_t3, ix_l0, ix_l1, ix_l2, is_non, and_true, true_and])
          have e2 : rs.map tsI ++ [.tup ((List.zipWith (fun x y => x + 2 * y) r0 rl).map Tv.int)] = (rs ++ [List.zipWith (fun x y => x + 2 * y) r0 rl]).map tsI := by rw [List.map_append]; rfl
          rw [e2]
          refine behind _ (rs ++ [List.zipWith (fun x y => x + 2 * y) r0 rl]) _ S4 _ _ _ _ _ _ _ (by rw [List.length_append, List.length_singleton]; omega) (fun u hu => ?_) (by omega) d4 fun _ _ h => h
          rcases List.mem_append.mp hu with q | q
          · exact ⟨(hrs u q).1, fun x hx => ((hrs u q).2 x hx).mono (by omega)⟩
          · rw [List.mem_singleton.mp q]
            refine ⟨by rw [List.length_zipWith]; omega, fun x hx => ?_⟩
            rw [← List.map_uncurry_zip_eq_zipWith] at hx
            obtain ⟨p, hp, rfl⟩ := List.mem_map.mp hx
            exact (((b0 _ (List.of_mem_zip hp).1).mono (by omega)).add (Bd.mul (k := 2) (x := 2) (by unfold Bd; decide) (bl _ (List.of_mem_zip hp).2))).mono (by omega)
        · rw [show (w == 0) = false by simp [hw], kI_f, List.nil_append]
          exact behind _ rs _ S4 _ _ _ _ _ _ _ (by omega) (fun r hr => ⟨(hrs r hr).1, fun x hx => ((hrs r hr).2 x hx).mono (by omega)⟩) (by omega) d4 fun _ _ h => h
  · rintro env S ⟨d, hlen, j2, j3, j4, j5, j6, j7, j8, j9, j10, rfl⟩
    (try simp only [exs_nil, q_asg, kA_eq, kR_eq, q_drop, kD_eq, q_ret, q_if, kI_t, kI_f, q_set, kS_eq, q_pass, q_brk, q_cont, q_for, kF_eq, List.cons_append, List.nil_append, w_var, t_var, w_int, w_str, w_bl, w_non, w_gl, w_bin, w_neg, t_cmp, w_cmp, t_chain, w_chain, t_isC, w_isC, w_isi, t_isi, t_bop1, t_bop, w_bop1, w_bop, t_nt, w_nt, w_ite, t_ite, w_nil, w_cons, a_tup, w_fz, w_mu, a_disp, a_comp, w_ofSeq, w_call, w_prim, w_ix, w_sl, w_rev, w_pop, w_popAt, w_app, e_nop, e_int, e_var, e_bin, i_seq, a_rng, rngA_int, a_rng2, rngB_int, a_zip, zipA_some, a_enum, enA_some, src_tsI, src_lsI, t_call, t_prim, tru_bl, opt_some, t_nop, List.getElem?_cons_zero, List.getElem?_cons_succ, setTg, setTgs, List.set_cons_zero, List.set_cons_succ, wp_ok, wipeE, len0, len1, len2, len3, len4, len5, len6, len7, len8, len9, len10, if_true, if_false, Bool.false_eq_true, eq_int, ne_int, gt_int, lt_int', le_int', ge_int', add_int, sub_int, abs_int, int_int, Option.map_some, src_lst, src_tup, ix_t0, ix_t1, ix_t2, ix_t3, ix_l0, ix_l1, ix_l2, is_non, and_true, true_and])
end Mp
namespace Qp
/-! ### fractions as pairs: lowest forms, order by cross products -/
def red (a b : Int) : Int × Int := (a / (Int.gcd a b : Int), b / (Int.gcd a b : Int))
def le (p q : Int × Int) : Prop := p.1 * q.2 ≤ q.1 * p.2
def lt (p q : Int × Int) : Prop := p.1 * q.2 < q.1 * p.2
instance (p q : Int × Int) : Decidable (le p q) := inferInstanceAs (Decidable (_ ≤ _))
instance (p q : Int × Int) : Decidable (lt p q) := inferInstanceAs (Decidable (_ < _))
theorem not_lt {p q : Int × Int} : ¬ lt p q ↔ le q p := Int.not_lt
theorem le_refl (p : Int × Int) : le p p := Int.le_refl _
theorem lt_le {p q : Int × Int} (h : lt p q) : le p q := Int.le_of_lt h
theorem le_trans {a b c : Int × Int} (ha : 0 < a.2) (hb : 0 < b.2) (hc : 0 < c.2) (h1 : le a b) (h2 : le b c) : le a c := by
  unfold le at *
  have e1 : a.1 * b.2 * c.2 ≤ b.1 * a.2 * c.2 := Int.mul_le_mul_of_nonneg_right h1 (by omega)
  have e2 : b.1 * c.2 * a.2 ≤ c.1 * b.2 * a.2 := Int.mul_le_mul_of_nonneg_right h2 (by omega)
  have x1 : a.1 * c.2 * b.2 = a.1 * b.2 * c.2 := by ac_rfl
  have x2 : b.1 * c.2 * a.2 = b.1 * a.2 * c.2 := by ac_rfl
  have x3 : c.1 * b.2 * a.2 = c.1 * a.2 * b.2 := by ac_rfl
  have e3 : a.1 * c.2 * b.2 ≤ c.1 * a.2 * b.2 := by omega
  exact Int.le_of_mul_le_mul_right e3 hb
theorem lt_of_lt_le {a b c : Int × Int} (ha : 0 < a.2) (hb : 0 < b.2) (hc : 0 < c.2) (h1 : lt a b) (h2 : le b c) : lt a c := by
  apply Classical.byContradiction
  intro z
  have := le_trans hb hc ha h2 (not_lt.mp z)
  exact not_lt.mpr this h1
theorem lt_of_le_lt {a b c : Int × Int} (ha : 0 < a.2) (hb : 0 < b.2) (hc : 0 < c.2) (h1 : le a b) (h2 : lt b c) : lt a c := by
  apply Classical.byContradiction
  intro z
  have := le_trans hc ha hb (not_lt.mp z) h1
  exact not_lt.mpr this h2
section
variable {a b : Int}
theorem g_pos (hb : 0 < b) : (0 : Int) < (Int.gcd a b : Int) := by
  have : 0 < Int.gcd a b := Nat.gcd_pos_of_pos_right _ (by omega)
  omega
theorem red_mul (a b : Int) : (red a b).1 * (Int.gcd a b : Int) = a ∧ (red a b).2 * (Int.gcd a b : Int) = b :=
  ⟨Int.ediv_mul_cancel (Int.gcd_dvd_left ..), Int.ediv_mul_cancel (Int.gcd_dvd_right ..)⟩
theorem red_pos (hb : 0 < b) : 0 < (red a b).2 := by
  have h := (red_mul a b).2
  have g := g_pos (a := a) hb
  apply Classical.byContradiction
  intro z
  have z : (red a b).2 ≤ 0 := by omega
  have := Int.mul_le_mul_of_nonneg_right z (Int.le_of_lt g)
  rw [Int.zero_mul, h] at this
  omega
theorem red_nonneg (hb : 0 < b) (ha : 0 ≤ a) : 0 ≤ (red a b).1 := Int.ediv_nonneg ha (by omega)
theorem red_le (a b : Int) (hb : 0 < b) : le (red a b) (a, b) ∧ le (a, b) (red a b) := by
  obtain ⟨h1, h2⟩ := red_mul a b
  have e : (red a b).1 * b = a * (red a b).2 := by
    have x : (red a b).1 * b = (red a b).1 * ((red a b).2 * (Int.gcd a b : Int)) := by rw [h2]
    have y : a * (red a b).2 = ((red a b).1 * (Int.gcd a b : Int)) * (red a b).2 := by rw [h1]
    rw [x, y]
    ac_rfl
  exact ⟨by unfold le; rw [e]; exact Int.le_refl _, by unfold le; rw [e]; exact Int.le_refl _⟩
theorem red_gcd (hb : 0 < b) : Int.gcd (red a b).1 (red a b).2 = 1 := by
  have g := g_pos (a := a) hb
  unfold red
  exact Int.gcd_ediv_gcd_ediv_gcd (by omega)
end
/-- equal fractions have one lowest form -/
theorem red_eq {a b c d : Int} (hb : 0 < b) (hd : 0 < d) (h : a * d = c * b) : red a b = red c d := by
  have pb := red_pos (a := a) hb
  have pd := red_pos (a := c) hd
  have g1 := red_gcd (a := a) hb
  have g2 := red_gcd (a := c) hd
  have l1 := red_le a b hb
  have l2 := red_le c d hd
  have e : (red a b).1 * (red c d).2 = (red c d).1 * (red a b).2 := by
    have q1 : le (red a b) (red c d) := le_trans pb hb pd l1.1 (le_trans (b := (c, d)) hb hd pd (by unfold le; simp only; omega) l2.2)
    have q2 : le (red c d) (red a b) := le_trans pd hd pb l2.1 (le_trans (b := (a, b)) hd hb pb (by unfold le; simp only; omega) l1.2)
    unfold le at q1 q2
    omega
  generalize red a b = p at *
  generalize red c d = q at *
  obtain ⟨x, y⟩ := p
  obtain ⟨u, v⟩ := q
  simp only at *
  have dv : ∀ {x y u v : Int}, Int.gcd x y = 1 → x * v = u * y → y.natAbs ∣ v.natAbs := fun {x y u v} g e => by
    have g' : Nat.Coprime y.natAbs x.natAbs := by
      show Nat.gcd y.natAbs x.natAbs = 1
      rw [Nat.gcd_comm]
      exact g
    refine g'.dvd_of_dvd_mul_left ?_
    rw [← Int.natAbs_mul, e, Int.natAbs_mul]
    exact Nat.dvd_mul_left _ _
  have d1 := dv g1 e
  have d2 := dv g2 e.symm
  have e1 : y = v := by
    have := Nat.dvd_antisymm d1 d2
    omega
  subst e1
  have := Int.eq_of_mul_eq_mul_right (by omega) e
  rw [this]
/-- what the pairs (times, most) leave: the least and the greatest share -/
structure PR (L : List (Int × Int)) (low : Int × Int) (high : Option (Int × Int)) : Prop where
  loIn : low = (0, 1) ∨ ∃ p ∈ L, p.1 < 0 ∧ p.2 < 0 ∧ low = red (-p.2) (-p.1)
  loMax : ∀ p ∈ L, p.1 < 0 → le (-p.2, -p.1) low
  hiNo : high = none → ∀ p ∈ L, ¬ 0 < p.1
  hiIn : ∀ h, high = some h → ∃ p ∈ L, 0 < p.1 ∧ h = red p.2 p.1
  hiMin : ∀ h, high = some h → ∀ p ∈ L, 0 < p.1 → le h (p.2, p.1)
theorem PR.nil : PR [] (0, 1) none := ⟨.inl rfl, fun p h => (List.not_mem_nil h).elim, fun _ p h => (List.not_mem_nil h).elim, fun h e => (nomatch e), fun h e => (nomatch e)⟩
theorem PR.lo_pos {L : List (Int × Int)} {low : Int × Int} {high : Option (Int × Int)} (h : PR L low high) : 0 < low.2 ∧ 0 ≤ low.1 := by
  rcases h.loIn with e | ⟨p, hp, h1, h2, e⟩
  · rw [e]; decide
  · rw [e]; exact ⟨red_pos (by omega), red_nonneg (by omega) (by omega)⟩
theorem PR.hi_pos {L : List (Int × Int)} {low : Int × Int} {high : Option (Int × Int)} (h : PR L low high) {g : Int × Int} (e : high = some g) : 0 < g.2 := by
  obtain ⟨p, hp, h1, e⟩ := h.hiIn g e
  rw [e]
  exact red_pos h1
/-- one pair more -/
theorem PR.low_step {L : List (Int × Int)} {low : Int × Int} {high : Option (Int × Int)} (h : PR L low high) (t m : Int) (ht : ¬ 0 < t) : PR (L ++ [(t, m)]) (if t < 0 ∧ lt low (-m, -t) then red (-m) (-t) else low) high := by
  have lp := h.lo_pos
  refine ⟨?_, fun p hp p1 => ?_, fun e p hp => ?_, fun g e => ?_, fun g e p hp p1 => ?_⟩
  · split
    · rename_i c
      refine .inr ⟨(t, m), by simp, c.1, ?_, rfl⟩
      have := c.2
      unfold lt at this
      simp only at this
      apply Classical.byContradiction
      intro z
      have z : -m ≤ 0 := by simp only at z; omega
      have h1 := Int.mul_le_mul_of_nonneg_right z (show (0 : Int) ≤ low.2 by omega)
      have h2 : 0 ≤ low.1 * -t := Int.mul_nonneg lp.2 (by omega)
      rw [Int.zero_mul] at h1
      omega
    · rcases h.loIn with e | ⟨p, hp, h1, h2, e⟩
      · exact .inl e
      · exact .inr ⟨p, by simp [hp], h1, h2, e⟩
  · rcases List.mem_append.mp hp with k | k
    · split
      · rename_i c
        have t0 := c.1
        exact le_trans (by simp only; omega) lp.1 (red_pos (by omega)) (h.loMax p k p1) (le_trans (b := (-m, -t)) lp.1 (by simp only; omega) (red_pos (by omega)) (lt_le c.2) (red_le _ _ (by omega)).2)
      · exact h.loMax p k p1
    · rw [List.mem_singleton.mp k] at p1 ⊢
      simp only at p1 ⊢
      split
      · exact (red_le _ _ (by omega)).2
      · rename_i c
        exact not_lt.mp fun z => c ⟨p1, z⟩
  · rcases List.mem_append.mp hp with k | k
    · exact h.hiNo e p k
    · rw [List.mem_singleton.mp k]; exact ht
  · obtain ⟨p, hp, h1, h2⟩ := h.hiIn g e
    exact ⟨p, by simp [hp], h1, h2⟩
  · rcases List.mem_append.mp hp with k | k
    · exact h.hiMin g e p k p1
    · rw [List.mem_singleton.mp k] at p1; exact absurd p1 ht
theorem PR.high_step {L : List (Int × Int)} {low : Int × Int} {high : Option (Int × Int)} (h : PR L low high) (t m : Int) (ht : 0 < t) {high' : Option (Int × Int)}
    (hh : high' = some (red m t) ∧ (∀ g, high = some g → lt (m, t) g) ∨ high' = high ∧ ∃ g, high = some g ∧ le g (m, t)) : PR (L ++ [(t, m)]) low high' := by
  refine ⟨?_, fun p hp p1 => ?_, fun e => ?_, fun g e => ?_, fun g e p hp p1 => ?_⟩
  · rcases h.loIn with e | ⟨p, hp, h1, h2, e⟩
    · exact .inl e
    · exact .inr ⟨p, by simp [hp], h1, h2, e⟩
  · rcases List.mem_append.mp hp with k | k
    · exact h.loMax p k p1
    · rw [List.mem_singleton.mp k] at p1
      simp only at p1
      omega
  · rcases hh with ⟨e1, _⟩ | ⟨e1, g, e2, _⟩
    · rw [e1] at e; cases e
    · rw [e1, e2] at e; cases e
  · rcases hh with ⟨e1, _⟩ | ⟨e1, _⟩
    · rw [e1] at e
      cases e
      exact ⟨(t, m), by simp, ht, rfl⟩
    · rw [e1] at e
      obtain ⟨p, hp, h1, h2⟩ := h.hiIn g e
      exact ⟨p, by simp [hp], h1, h2⟩
  · rcases hh with ⟨e1, e2⟩ | ⟨e1, g', e2, e3⟩
    · rw [e1] at e
      cases e
      have l1 := (red_le m t ht).1
      have pp := red_pos (a := m) ht
      rcases List.mem_append.mp hp with k | k
      · cases hg : high with
        | none => exact absurd p1 (h.hiNo hg p k)
        | some g0 =>
          have g0p := h.hi_pos hg
          exact le_trans pp (b := (m, t)) ht p1 l1 (le_trans (b := g0) ht g0p p1 (lt_le (e2 g0 hg)) (h.hiMin g0 hg p k p1))
      · rw [List.mem_singleton.mp k]; exact l1
    · rw [e1] at e
      rcases List.mem_append.mp hp with k | k
      · exact h.hiMin g e p k p1
      · rw [List.mem_singleton.mp k]
        rw [e2] at e
        cases e
        exact e3
/-- both ends are told by the pairs alone -/
theorem PR.unique {L : List (Int × Int)} {l l' : Int × Int} {h h' : Option (Int × Int)} (a : PR L l h) (b : PR L l' h') : l = l' ∧ h = h' := by
  constructor
  · have low : ∀ {l l' : Int × Int} {h h' : Option (Int × Int)}, PR L l h → PR L l' h' → le l l' := by
      intro l l' h h' a b
      have lp := b.lo_pos
      rcases a.loIn with e | ⟨p, hp, h1, h2, e⟩
      · rw [e]
        unfold le
        simp only [Int.zero_mul, Int.mul_one]
        exact lp.2
      · rw [e]
        exact le_trans (red_pos (by omega)) (b := (-p.2, -p.1)) (by simp only; omega) lp.1 (red_le _ _ (by omega)).1 (b.loMax p hp h1)
    have q1 := low a b
    have q2 := low b a
    have e0 : l.1 * l'.2 = l'.1 * l.2 := by unfold le at q1 q2; omega
    have ap := a.lo_pos
    have bp := b.lo_pos
    rcases a.loIn with e | ⟨p, hp, h1, h2, e⟩
    · rcases b.loIn with f | ⟨q, hq, k1, k2, f⟩
      · rw [e, f]
      · have z : 0 = l'.1 := by rw [e] at e0; simp only [Int.zero_mul, Int.mul_one] at e0; exact e0
        have := (red_le (-q.2) (-q.1) (by omega)).2
        rw [← f] at this
        unfold le at this
        simp only at this
        rw [← z, Int.zero_mul] at this
        have := Int.mul_pos (show (0 : Int) < -q.2 by omega) bp.1
        omega
    · rcases b.loIn with f | ⟨q, hq, k1, k2, f⟩
      · have z : l.1 = 0 := by rw [f] at e0; simp only [Int.zero_mul, Int.mul_one] at e0; exact e0
        have := (red_le (-p.2) (-p.1) (by omega)).2
        rw [← e] at this
        unfold le at this
        simp only at this
        rw [z, Int.zero_mul] at this
        have := Int.mul_pos (show (0 : Int) < -p.2 by omega) ap.1
        omega
      · rw [e, f]
        refine red_eq (by omega) (by omega) ?_
        have r1 := red_le (-p.2) (-p.1) (by omega)
        have r2 := red_le (-q.2) (-q.1) (by omega)
        rw [← e] at r1
        rw [← f] at r2
        have x1 : le (-p.2, -p.1) (-q.2, -q.1) := le_trans (by simp only; omega) ap.1 (by simp only; omega) r1.2 (le_trans ap.1 bp.1 (by simp only; omega) q1 r2.1)
        have x2 : le (-q.2, -q.1) (-p.2, -p.1) := le_trans (by simp only; omega) bp.1 (by simp only; omega) r2.2 (le_trans bp.1 ap.1 (by simp only; omega) q2 r1.1)
        unfold le at x1 x2
        simp only at x1 x2
        omega
  · cases h with
    | none =>
      cases h' with
      | none => rfl
      | some g =>
        obtain ⟨p, hp, h1, _⟩ := b.hiIn g rfl
        exact absurd h1 (a.hiNo rfl p hp)
    | some g =>
      cases h' with
      | none =>
        obtain ⟨p, hp, h1, _⟩ := a.hiIn g rfl
        exact absurd h1 (b.hiNo rfl p hp)
      | some g' =>
        obtain ⟨p, hp, h1, e⟩ := a.hiIn g rfl
        obtain ⟨q, hq, k1, f⟩ := b.hiIn g' rfl
        have y1 := a.hiMin g rfl q hq k1
        have y2 := b.hiMin g' rfl p hp h1
        have gp := a.hi_pos (g := g) rfl
        have gp' := b.hi_pos (g := g') rfl
        rw [e, f]
        congr 1
        refine red_eq h1 k1 ?_
        have r1 := red_le p.2 p.1 h1
        have r2 := red_le q.2 q.1 k1
        rw [← e] at r1
        rw [← f] at r2
        have x1 : le (p.2, p.1) (q.2, q.1) := le_trans h1 gp k1 r1.2 y1
        have x2 : le (q.2, q.1) (p.2, p.1) := le_trans k1 gp' h1 r2.2 y2
        unfold le at x1 x2
        simp only at x1 x2
        omega
/-- a pair that leaves nothing -/
def bad (L : List (Int × Int)) : Prop := ∃ p ∈ L, p.1 = 0 ∧ p.2 < 0
def bad2 (L : List (Int × Int)) : Prop := ∃ p ∈ L, (p.1 = 0 ∧ p.2 < 0) ∨ (0 < p.1 ∧ p.2 < 0)
/-- the greatest is below the least -/
def cross (low : Int × Int) : Option (Int × Int) → Prop
  | some h => lt h low
  | none => False
theorem PR.bad_cross {L : List (Int × Int)} {low : Int × Int} {high : Option (Int × Int)} (h : PR L low high) (b : bad2 L) : bad L ∨ cross low high := by
  obtain ⟨p, hp, k | k⟩ := b
  · exact .inl ⟨p, hp, k⟩
  · refine .inr ?_
    cases e : high with
    | none => exact absurd k.1 (h.hiNo e p hp)
    | some g =>
      have m := h.hiMin g e p hp k.1
      have gp := h.hi_pos e
      have lp := h.lo_pos
      have neg : lt (p.2, p.1) low := by
        unfold lt
        have x1 : p.2 * low.2 < 0 := Int.mul_neg_of_neg_of_pos k.2 lp.1
        have x2 : 0 ≤ low.1 * p.1 := Int.mul_nonneg lp.2 (by omega)
        simp only
        omega
      exact lt_of_le_lt gp (b := (p.2, p.1)) k.1 lp.1 m neg
end Qp
namespace Mp
def xDot : Df := ⟨4, 2,
  [
    .ret (.prim .sum [(.fz (.comp [2, 3] (.bin .mul (.var 2) (.var 3)) (.tup [(.v 2), (.v 3)]) (.zip (.var 0) (.var 1)) .nop))])]⟩
def xCost : Df := ⟨2, 2,
  [
    .ret (.call 25 [(.var 0), (.var 1)])]⟩
def xBoundsOf : Df := ⟨8, 3,
  [
    .asg (.tup [(.v 3), (.v 4)]) (.var 2),
    .asg (.tup [(.v 5), (.v 6)]) (.tup [(.call 26 [(.var 0), (.ix (.var 3) (.var 4))]), (.call 26 [(.var 1), (.ix (.var 3) (.var 4))])]),
    .ret (.fz (.comp [7] (.tup [(.bin .sub (.var 6) (.call 26 [(.var 1), (.var 7)])), (.bin .sub (.call 26 [(.var 0), (.var 7)]) (.var 5))]) (.v 7) (.seq (.var 3)) .nop))]⟩
def xPenaltyRange : Df := ⟨8, 3,
  [
    .asg (.tup [(.v 4), (.v 5)]) (.tup [(.tup [(.int 0), (.int 1)]), .non]),
    .forS (.v 3) (.seq (.var 2))
      [
        .forS (.tup [(.v 6), (.v 7)]) (.seq (.call 27 [(.var 0), (.var 1), (.var 3)]))
          [
            .ifS (.bop true [(.cmp .eq (.var 6) (.int 0)), (.cmp .lt (.var 7) (.int 0))])
              [
                .ret .non]
              [],
            .ifS (.bop true [(.cmp .gt (.var 6) (.int 0)), (.bop false [(.isC false (.var 5) none), (.call 3 [(.tup [(.var 7), (.var 6)]), (.var 5)])])])
              [
                .asg (.v 5) (.call 2 [(.var 7), (.var 6)])]
              [],
            .ifS (.bop true [(.cmp .lt (.var 6) (.int 0)), (.call 3 [(.var 4), (.tup [(.bin .sub (.int 0) (.var 7)), (.bin .sub (.int 0) (.var 6))])])])
              [
                .asg (.v 4) (.call 2 [(.bin .sub (.int 0) (.var 7)), (.bin .sub (.int 0) (.var 6))])]
              []]],
    .ifS (.bop true [(.isC true (.var 5) none), (.call 3 [(.var 5), (.var 4)])])
      [
        .ret .non]
      [],
    .ret (.tup [(.var 4), (.var 5)])]⟩
def xLawMarket : Df := ⟨6, 2,
  [
    .asg (.v 2) (.call 8 [(.var 0), (.fz (.disp [(.int 2), (.int 4), (.int 4), (.int 12), (.int 60)]))]),
    .asg (.v 3) (.bin .add (.int 1) (.call 8 [(.var 0), (.fz (.disp [(.int 0), (.int 1), (.int 2), (.int 3), (.int 4), (.int 5), (.int 7), (.int 11)]))])),
    .ret (.prim .tuple [(.fz (.comp [4] (.prim .tuple [(.fz (.comp [5] (.call 7 [(.var 0), (.var 2)]) (.v 5) (.rng (.var 1)) .nop))]) (.v 4) (.rng (.var 3)) .nop))])]⟩
def xLawCost : Df := ⟨4, 2,
  [
    .ret (.prim .sum [(.fz (.comp [2, 3] (.bin .mul (.var 2) (.var 3)) (.tup [(.v 2), (.v 3)]) (.zip (.var 0) (.var 1)) .nop))])]⟩
def xLawSights : Df := ⟨12, 3,
  [
    .asg (.tup [(.v 5), (.v 6)]) (.tup [(.mu (.disp [])), (.prim .len [(.var 1)])]),
    .asg (.v 3) (.tup [(.call 7 [(.var 0), (.int 12)]), (.bin .add (.int 1) (.call 7 [(.var 0), (.int 4)]))]),
    .forS (.v 4) (.rng (.call 8 [(.var 0), (.fz (.disp [(.int 0), (.int 1), (.int 2), (.int 3), (.int 5), (.int 8)]))]))
      [
        .asg (.v 7) (.sl (.call 29 [(.var 0), (.var 6)]) .nop (.int 5)),
        .asg (.v 8) (.fz (.comp [11] (.bin .add (.bin .mul (.call 30 [(.var 1), (.var 11)]) (.ix (.var 3) (.int 1))) (.bin .mul (.call 30 [(.var 2), (.var 11)]) (.ix (.var 3) (.int 0)))) (.v 11) (.seq (.var 7)) .nop)),
        .asg (.v 9) (.fz (.comp [10] (.var 10) (.v 10) (.rng (.prim .len [(.var 7)])) (.cmp .eq (.ix (.var 8) (.var 10)) (.prim .min [(.var 8)])))),
        .asg (.v 10) (.ite (.cmp .gt (.call 7 [(.var 0), (.int 8)]) (.int 0)) (.call 8 [(.var 0), (.var 9)]) (.call 7 [(.var 0), (.prim .len [(.var 7)])])),
        .drop (.app (.var 5) (.tup [(.var 7), (.var 10)]))],
    .ret (.prim .tuple [(.var 5)])]⟩
def xLawDueRange : Df := ⟨14, 3,
  [
    .asg (.tup [(.v 5), (.v 6)]) (.tup [(.mu (.disp [(.tup [(.int 0), (.int 1)])])), (.mu (.disp []))]),
    .forS (.tup [(.v 7), (.v 8)]) (.seq (.var 2))
      [
        .forS (.v 9) (.seq (.var 7))
          [
            .asg (.v 10) (.bin .sub (.call 30 [(.var 1), (.ix (.var 7) (.var 8))]) (.call 30 [(.var 1), (.var 9)])),
            .asg (.v 11) (.bin .sub (.call 30 [(.var 0), (.var 9)]) (.call 30 [(.var 0), (.ix (.var 7) (.var 8))])),
            .ifS (.bop false [(.bop true [(.cmp .eq (.var 10) (.int 0)), (.cmp .lt (.var 11) (.int 0))]), (.bop true [(.cmp .gt (.var 10) (.int 0)), (.cmp .lt (.var 11) (.int 0))])])
              [
                .ret (.tup [])]
              [],
            .ifS (.cmp .gt (.var 10) (.int 0))
              [
                .drop (.app (.var 6) (.call 11 [(.tup [(.var 11), (.var 10)])]))]
              [],
            .ifS (.bop true [(.cmp .lt (.var 10) (.int 0)), (.cmp .lt (.var 11) (.int 0))])
              [
                .drop (.app (.var 5) (.call 11 [(.tup [(.bin .sub (.int 0) (.var 11)), (.bin .sub (.int 0) (.var 10))])]))]
              []]],
    .asg (.v 3) (.ix (.fz (.comp [12] (.var 12) (.v 12) (.seq (.var 5)) (.cmp .eq (.fz (.comp [13] (.int 1) (.v 13) (.seq (.var 5)) (.cmp .gt (.bin .mul (.ix (.var 13) (.int 0)) (.ix (.var 12) (.int 1))) (.bin .mul (.ix (.var 12) (.int 0)) (.ix (.var 13) (.int 1)))))) (.fz (.disp []))))) (.int 0)),
    .asg (.v 4) (.fz (.comp [12] (.var 12) (.v 12) (.seq (.var 6)) (.cmp .eq (.fz (.comp [13] (.int 1) (.v 13) (.seq (.var 6)) (.cmp .lt (.bin .mul (.ix (.var 13) (.int 0)) (.ix (.var 12) (.int 1))) (.bin .mul (.ix (.var 12) (.int 0)) (.ix (.var 13) (.int 1)))))) (.fz (.disp []))))),
    .ifS (.bop true [(.cmp .ne (.var 4) (.fz (.disp []))), (.cmp .lt (.bin .mul (.ix (.ix (.var 4) (.int 0)) (.int 0)) (.ix (.var 3) (.int 1))) (.bin .mul (.ix (.var 3) (.int 0)) (.ix (.ix (.var 4) (.int 0)) (.int 1))))])
      [
        .ret (.tup [])]
      [],
    .ret (.tup [(.var 3), (.ite (.cmp .ne (.var 4) (.fz (.disp []))) (.ix (.var 4) (.int 0)) .non)])]⟩
def xLaw_k33 : Df := ⟨10, 1,
  [
    .asg (.v 1) (.call 6 [(.var 0)]),
    .forS (.v 2) (.rng (.int 8))
      [
        .asg (.v 3) (.bin .add (.int 1) (.call 7 [(.var 1), (.int 4)])),
        .asg (.tup [(.v 6), (.v 7)]) (.tup [(.call 9 [(.var 1), (.var 3)]), (.call 9 [(.var 1), (.var 3)])]),
        .asg (.v 4) (.call 31 [(.var 1), (.var 6), (.var 7)]),
        .asg (.tup [(.v 8), (.v 9)]) (.tup [(.prim .repr [(.var 4)]), (.call 32 [(.var 6), (.var 7), (.var 4)])]),
        .asg (.v 5) (.call 28 [(.var 6), (.var 7), (.var 4)]),
        .ifS (.bop false [(.cmp .ne (.prim .repr [(.var 5)]) (.prim .repr [(.ite (.cmp .ne (.var 9) (.tup [])) (.var 9) .non)])), (.cmp .ne (.prim .repr [(.var 4)]) (.var 8))])
          [
            .ret (.bl false)]
          []],
    .ret (.bl true)]⟩
/-! ### sums of products -/
theorem dot_bd {cf : Nat → List Tv → M Tv} {S : Sto} {a b : List Int} {k l : Nat} (ha : ∀ x ∈ a, Bd k x) (hb : ∀ x ∈ b, Bd l x) (hs : k + l ≤ 900000) (hl : a.length ≤ 1000) : runD cf xDot [tsI a, tsI b] S = .ok (.int (Qr.dot a b)) S := by
  refine run_eq rfl ?_
  show (exs cf Fu xDot.body [some (tsI a), some (tsI b), none, none] S).wp _
  unfold xDot
  have l1 : (((a.zip b).map pr).length ≤ lim) = True := len_map (by rw [List.length_zip]; omega)
  rw [q_ret]
  (try simp only [List.cons_append, List.nil_append, w_var, t_var, w_int, w_str, w_bl, w_non, w_gl, w_bin, w_neg, t_cmp, w_cmp, t_chain, w_chain, t_isC, w_isC, w_isi, t_isi, t_bop1, t_bop, w_bop1, w_bop, t_nt, w_nt, w_ite, t_ite, w_nil, w_cons, a_tup, w_fz, w_mu, a_disp, a_comp, w_ofSeq, w_call, w_prim, w_ix, w_sl, w_rev, w_pop, w_popAt, w_app, e_nop, e_int, e_var, e_bin, i_seq, a_rng, rngA_int, a_rng2, rngB_int, a_zip, zipA_some, a_enum, enA_some, src_tsI, src_lsI, t_call, t_prim, tru_bl, opt_some, t_nop, List.getElem?_cons_zero, List.getElem?_cons_succ, setTg, setTgs, List.set_cons_zero, List.set_cons_succ, wp_ok, wipeE, len0, len1, len2, len3, len4, len5, len6, len7, len8, len9, len10, if_true, if_false, Bool.false_eq_true, eq_int, ne_int, gt_int, lt_int', le_int', ge_int', add_int, sub_int, abs_int, int_int, Option.map_some, src_lst, src_tup, ix_t0, ix_t1, ix_t2, ix_t3, ix_l0, ix_l1, ix_l2, is_non, and_true, true_and, zipT_pr, l1])
  rw [comp_all (fun p : Int × Int => Tv.int (p.1 * p.2)) rfl (fun p hp => by
    have m1 : ∀ S, binV .mul S (.int p.1) (.int p.2) = some (.int (p.1 * p.2)) := fun S => mul_bd (ha _ (List.of_mem_zip hp).1) (hb _ (List.of_mem_zip hp).2) hs
    (try simp only [exs_nil, q_asg, kA_eq, kR_eq, q_drop, kD_eq, q_ret, q_if, kI_t, kI_f, q_set, kS_eq, q_pass, q_brk, q_cont, q_for, kF_eq, List.cons_append, List.nil_append, w_var, t_var, w_int, w_str, w_bl, w_non, w_gl, w_bin, w_neg, t_cmp, w_cmp, t_chain, w_chain, t_isC, w_isC, w_isi, t_isi, t_bop1, t_bop, w_bop1, w_bop, t_nt, w_nt, w_ite, t_ite, w_nil, w_cons, a_tup, w_fz, w_mu, a_disp, a_comp, w_ofSeq, w_call, w_prim, w_ix, w_sl, w_rev, w_pop, w_popAt, w_app, e_nop, e_int, e_var, e_bin, i_seq, a_rng, rngA_int, a_rng2, rngB_int, a_zip, zipA_some, a_enum, enA_some, src_tsI, src_lsI, t_call, t_prim, tru_bl, opt_some, t_nop, List.getElem?_cons_zero, List.getElem?_cons_succ, setTg, setTgs, List.set_cons_zero, List.set_cons_succ, wp_ok, wipeE, len0, len1, len2, len3, len4, len5, len6, len7, len8, len9, len10, if_true, if_false, Bool.false_eq_true, eq_int, ne_int, gt_int, lt_int', le_int', ge_int', add_int, sub_int, abs_int, int_int, Option.map_some, src_lst, src_tup, ix_t0, ix_t1, ix_t2, ix_t3, ix_l0, ix_l1, ix_l2, is_non, and_true, true_and, pr, m1]))]
  have e : ((a.zip b).map fun p : Int × Int => Tv.int (p.1 * p.2)) = ((a.zip b).map fun p : Int × Int => p.1 * p.2).map Tv.int := by rw [List.map_map]; rfl
  rw [e]
  (try simp only [List.cons_append, List.nil_append, w_var, t_var, w_int, w_str, w_bl, w_non, w_gl, w_bin, w_neg, t_cmp, w_cmp, t_chain, w_chain, t_isC, w_isC, w_isi, t_isi, t_bop1, t_bop, w_bop1, w_bop, t_nt, w_nt, w_ite, t_ite, w_nil, w_cons, a_tup, w_fz, w_mu, a_disp, a_comp, w_ofSeq, w_call, w_prim, w_ix, w_sl, w_rev, w_pop, w_popAt, w_app, e_nop, e_int, e_var, e_bin, i_seq, a_rng, rngA_int, a_rng2, rngB_int, a_zip, zipA_some, a_enum, enA_some, src_tsI, src_lsI, t_call, t_prim, tru_bl, opt_some, t_nop, List.getElem?_cons_zero, List.getElem?_cons_succ, setTg, setTgs, List.set_cons_zero, List.set_cons_succ, wp_ok, wipeE, len0, len1, len2, len3, len4, len5, len6, len7, len8, len9, len10, if_true, if_false, Bool.false_eq_true, eq_int, ne_int, gt_int, lt_int', le_int', ge_int', add_int, sub_int, abs_int, int_int, Option.map_some, src_lst, src_tup, ix_t0, ix_t1, ix_t2, ix_t3, ix_l0, ix_l1, ix_l2, is_non, and_true, true_and, sum_ints, sum_dot])
theorem cost_bd {cf c : Nat → List Tv → M Tv} (h : cf 25 = runD c xDot) {S : Sto} {a b : List Int} {k l : Nat} (ha : ∀ x ∈ a, Bd k x) (hb : ∀ x ∈ b, Bd l x) (hs : k + l ≤ 900000) (hl : a.length ≤ 1000) : runD cf xCost [tsI a, tsI b] S = .ok (.int (Qr.dot a b)) S := by
  refine run_eq rfl ?_
  show (exs cf Fu xCost.body [some (tsI a), some (tsI b)] S).wp _
  unfold xCost
  have e := dot_bd (cf := c) (S := S) ha hb hs hl
  rw [← h] at e
  (try simp only [exs_nil, q_asg, kA_eq, kR_eq, q_drop, kD_eq, q_ret, q_if, kI_t, kI_f, q_set, kS_eq, q_pass, q_brk, q_cont, q_for, kF_eq, List.cons_append, List.nil_append, w_var, t_var, w_int, w_str, w_bl, w_non, w_gl, w_bin, w_neg, t_cmp, w_cmp, t_chain, w_chain, t_isC, w_isC, w_isi, t_isi, t_bop1, t_bop, w_bop1, w_bop, t_nt, w_nt, w_ite, t_ite, w_nil, w_cons, a_tup, w_fz, w_mu, a_disp, a_comp, w_ofSeq, w_call, w_prim, w_ix, w_sl, w_rev, w_pop, w_popAt, w_app, e_nop, e_int, e_var, e_bin, i_seq, a_rng, rngA_int, a_rng2, rngB_int, a_zip, zipA_some, a_enum, enA_some, src_tsI, src_lsI, t_call, t_prim, tru_bl, opt_some, t_nop, List.getElem?_cons_zero, List.getElem?_cons_succ, setTg, setTgs, List.set_cons_zero, List.set_cons_succ, wp_ok, wipeE, len0, len1, len2, len3, len4, len5, len6, len7, len8, len9, len10, if_true, if_false, Bool.false_eq_true, eq_int, ne_int, gt_int, lt_int', le_int', ge_int', add_int, sub_int, abs_int, int_int, Option.map_some, src_lst, src_tup, ix_t0, ix_t1, ix_t2, ix_t3, ix_l0, ix_l1, ix_l2, is_non, and_true, true_and, e])
/-! ### sights -/
abbrev Sg := List (List Int) × Nat
def sgT (s : Sg) : Tv := .tup [.tup (s.1.map tsI), .int (s.2 : Int)]
structure SgOk (n : Nat) (s : Sg) : Prop where
  at' : s.2 < s.1.length
  len : s.1.length ≤ 12
  ways : ∀ w ∈ s.1, w.length = n ∧ ∀ x ∈ w, 0 ≤ x ∧ x ≤ 60
structure WsOk (n : Nat) (ws : List Int) : Prop where
  len : ws.length = n
  bd : ∀ x ∈ ws, 0 ≤ x ∧ x ≤ 20
def own (s : Sg) : List Int := s.1.getD s.2 []
theorem own_mem {s : Sg} {n : Nat} (h : SgOk n s) : own s ∈ s.1 ∧ s.1[s.2]? = some (own s) := by
  have e : own s = s.1[s.2]'h.at' := by
    unfold own
    rw [List.getD_eq_getElem?_getD, List.getElem?_eq_getElem h.at']
    rfl
  rw [e]
  exact ⟨List.getElem_mem _, List.getElem?_eq_getElem h.at'⟩
def prOf (base extra : List Int) (s : Sg) (w : List Int) : Int × Int := (Qr.dot extra (own s) - Qr.dot extra w, Qr.dot base w - Qr.dot base (own s))
def prs (base extra : List Int) (s : Sg) : List (Int × Int) := s.1.map (prOf base extra s)
def allP (base extra : List Int) (ss : List Sg) : List (Int × Int) := (ss.map (prs base extra)).flatten
theorem dot_le {n : Nat} : ∀ {a b : List Int}, (∀ x ∈ a, 0 ≤ x ∧ x ≤ 20) → (∀ x ∈ b, 0 ≤ x ∧ x ≤ 60) → a.length ≤ n → 0 ≤ Qr.dot a b ∧ Qr.dot a b ≤ 1200 * n
  | [], b, _, _, _ => by cases b <;> simp [Qr.dot] <;> omega
  | x :: a, [], _, _, _ => by simp [Qr.dot]; omega
  | x :: a, y :: b, ha, hb, hl => by
    rw [List.length_cons] at hl
    obtain ⟨m, rfl⟩ : ∃ m, n = m + 1 := ⟨n - 1, by omega⟩
    have ih := dot_le (n := m) (a := a) (b := b) (fun z hz => ha z (List.mem_cons_of_mem _ hz)) (fun z hz => hb z (List.mem_cons_of_mem _ hz)) (by omega)
    have h1 := ha x List.mem_cons_self
    have h2 := hb y List.mem_cons_self
    have p0 : 0 ≤ x * y := Int.mul_nonneg h1.1 h2.1
    have p1 : x * y ≤ 20 * 60 := Int.mul_le_mul h1.2 h2.2 h2.1 (by decide)
    simp only [Qr.dot]
    omega
theorem pr_small {n : Nat} {base extra : List Int} {s : Sg} (hb : WsOk n base) (he : WsOk n extra) (hn : n ≤ 4) (hs : SgOk n s) : ∀ p ∈ prs base extra s, (p.1.natAbs ≤ 4800) ∧ p.2.natAbs ≤ 4800 := by
  intro p hp
  obtain ⟨w, hw, rfl⟩ := List.mem_map.mp hp
  have a1 := dot_le (n := 4) he.bd (hs.ways _ (own_mem hs).1).2 (by rw [he.len]; omega)
  have a2 := dot_le (n := 4) he.bd (hs.ways w hw).2 (by rw [he.len]; omega)
  have a3 := dot_le (n := 4) hb.bd (hs.ways _ (own_mem hs).1).2 (by rw [hb.len]; omega)
  have a4 := dot_le (n := 4) hb.bd (hs.ways w hw).2 (by rw [hb.len]; omega)
  unfold prOf
  simp only
  omega
theorem all_small {n : Nat} {base extra : List Int} {ss : List Sg} (hb : WsOk n base) (he : WsOk n extra) (hn : n ≤ 4) (hs : ∀ s ∈ ss, SgOk n s) : ∀ p ∈ allP base extra ss, (p.1.natAbs ≤ 4800) ∧ p.2.natAbs ≤ 4800 := by
  intro p hp
  obtain ⟨l, hl, hpl⟩ := List.mem_flatten.mp hp
  obtain ⟨s, hs', rfl⟩ := List.mem_map.mp hl
  exact pr_small hb he hn (hs s hs') p hpl
theorem ws_bd {n : Nat} {ws : List Int} (h : WsOk n ws) : ∀ x ∈ ws, Bd 5 x := fun x hx => Bd.of (m := 20) (by have := h.bd x hx; omega) (by decide)
theorem way_bd {n : Nat} {s : Sg} (h : SgOk n s) {w : List Int} (hw : w ∈ s.1) : ∀ x ∈ w, Bd 6 x := fun x hx => Bd.of (m := 60) (by have := (h.ways w hw).2 x hx; omega) (by decide)
theorem boundsOf_ok {cf : Nat → List Tv → M Tv} (h26 : ∀ (S : Sto) (a b : List Int), (∀ x ∈ a, Bd 5 x) → (∀ x ∈ b, Bd 6 x) → a.length ≤ 1000 → cf 26 [tsI a, tsI b] S = .ok (.int (Qr.dot a b)) S) {S : Sto} {n : Nat} {base extra : List Int} {s : Sg} (hb : WsOk n base) (he : WsOk n extra) (hn : n ≤ 4) (hs : SgOk n s) :
    runD cf xBoundsOf [tsI base, tsI extra, sgT s] S = .ok (.lst ((prs base extra s).map pr)) S := by
  refine run_eq rfl ?_
  show (exs cf Fu xBoundsOf.body [some (tsI base), some (tsI extra), some (sgT s), none, none, none, none, none] S).wp _
  unfold xBoundsOf
  obtain ⟨om, oe⟩ := own_mem hs
  have i1 : ∀ S, ixV S (.tup (s.1.map tsI)) (.int (s.2 : Int)) = some (tsI (own s)) := fun S => by
    show L2.atI (s.1.map tsI) (s.2 : Int) = _
    exact L2.atI_nat (by rw [List.getElem?_map, oe]; rfl)
  have c1 := h26 S base (own s) (ws_bd hb) (way_bd hs om) (by rw [hb.len]; omega)
  have c2 := h26 S extra (own s) (ws_bd he) (way_bd hs om) (by rw [he.len]; omega)
  have l1 : ((s.1.map tsI).length ≤ lim) = True := len_map (by have := hs.len; omega)
  rw [q_asg]
  (try simp only [List.cons_append, List.nil_append, w_var, t_var, w_int, w_str, w_bl, w_non, w_gl, w_bin, w_neg, t_cmp, w_cmp, t_chain, w_chain, t_isC, w_isC, w_isi, t_isi, t_bop1, t_bop, w_bop1, w_bop, t_nt, w_nt, w_ite, t_ite, w_nil, w_cons, a_tup, w_fz, w_mu, a_disp, a_comp, w_ofSeq, w_call, w_prim, w_ix, w_sl, w_rev, w_pop, w_popAt, w_app, e_nop, e_int, e_var, e_bin, i_seq, a_rng, rngA_int, a_rng2, rngB_int, a_zip, zipA_some, a_enum, enA_some, src_tsI, src_lsI, t_call, t_prim, tru_bl, opt_some, t_nop, List.getElem?_cons_zero, List.getElem?_cons_succ, setTg, setTgs, List.set_cons_zero, List.set_cons_succ, wp_ok, wipeE, len0, len1, len2, len3, len4, len5, len6, len7, len8, len9, len10, if_true, if_false, Bool.false_eq_true, eq_int, ne_int, gt_int, lt_int', le_int', ge_int', add_int, sub_int, abs_int, int_int, Option.map_some, src_lst, src_tup, ix_t0, ix_t1, ix_t2, ix_t3, ix_l0, ix_l1, ix_l2, is_non, and_true, true_and])
  rw [kA_eq]
  (try simp only [List.cons_append, List.nil_append, w_var, t_var, w_int, w_str, w_bl, w_non, w_gl, w_bin, w_neg, t_cmp, w_cmp, t_chain, w_chain, t_isC, w_isC, w_isi, t_isi, t_bop1, t_bop, w_bop1, w_bop, t_nt, w_nt, w_ite, t_ite, w_nil, w_cons, a_tup, w_fz, w_mu, a_disp, a_comp, w_ofSeq, w_call, w_prim, w_ix, w_sl, w_rev, w_pop, w_popAt, w_app, e_nop, e_int, e_var, e_bin, i_seq, a_rng, rngA_int, a_rng2, rngB_int, a_zip, zipA_some, a_enum, enA_some, src_tsI, src_lsI, t_call, t_prim, tru_bl, opt_some, t_nop, List.getElem?_cons_zero, List.getElem?_cons_succ, setTg, setTgs, List.set_cons_zero, List.set_cons_succ, wp_ok, wipeE, len0, len1, len2, len3, len4, len5, len6, len7, len8, len9, len10, if_true, if_false, Bool.false_eq_true, eq_int, ne_int, gt_int, lt_int', le_int', ge_int', add_int, sub_int, abs_int, int_int, Option.map_some, src_lst, src_tup, ix_t0, ix_t1, ix_t2, ix_t3, ix_l0, ix_l1, ix_l2, is_non, and_true, true_and, sgT])
  rw [q_asg]
  (try simp only [List.cons_append, List.nil_append, w_var, t_var, w_int, w_str, w_bl, w_non, w_gl, w_bin, w_neg, t_cmp, w_cmp, t_chain, w_chain, t_isC, w_isC, w_isi, t_isi, t_bop1, t_bop, w_bop1, w_bop, t_nt, w_nt, w_ite, t_ite, w_nil, w_cons, a_tup, w_fz, w_mu, a_disp, a_comp, w_ofSeq, w_call, w_prim, w_ix, w_sl, w_rev, w_pop, w_popAt, w_app, e_nop, e_int, e_var, e_bin, i_seq, a_rng, rngA_int, a_rng2, rngB_int, a_zip, zipA_some, a_enum, enA_some, src_tsI, src_lsI, t_call, t_prim, tru_bl, opt_some, t_nop, List.getElem?_cons_zero, List.getElem?_cons_succ, setTg, setTgs, List.set_cons_zero, List.set_cons_succ, wp_ok, wipeE, len0, len1, len2, len3, len4, len5, len6, len7, len8, len9, len10, if_true, if_false, Bool.false_eq_true, eq_int, ne_int, gt_int, lt_int', le_int', ge_int', add_int, sub_int, abs_int, int_int, Option.map_some, src_lst, src_tup, ix_t0, ix_t1, ix_t2, ix_t3, ix_l0, ix_l1, ix_l2, is_non, and_true, true_and, i1, c1, c2])
  rw [kA_eq]
  (try simp only [List.cons_append, List.nil_append, w_var, t_var, w_int, w_str, w_bl, w_non, w_gl, w_bin, w_neg, t_cmp, w_cmp, t_chain, w_chain, t_isC, w_isC, w_isi, t_isi, t_bop1, t_bop, w_bop1, w_bop, t_nt, w_nt, w_ite, t_ite, w_nil, w_cons, a_tup, w_fz, w_mu, a_disp, a_comp, w_ofSeq, w_call, w_prim, w_ix, w_sl, w_rev, w_pop, w_popAt, w_app, e_nop, e_int, e_var, e_bin, i_seq, a_rng, rngA_int, a_rng2, rngB_int, a_zip, zipA_some, a_enum, enA_some, src_tsI, src_lsI, t_call, t_prim, tru_bl, opt_some, t_nop, List.getElem?_cons_zero, List.getElem?_cons_succ, setTg, setTgs, List.set_cons_zero, List.set_cons_succ, wp_ok, wipeE, len0, len1, len2, len3, len4, len5, len6, len7, len8, len9, len10, if_true, if_false, Bool.false_eq_true, eq_int, ne_int, gt_int, lt_int', le_int', ge_int', add_int, sub_int, abs_int, int_int, Option.map_some, src_lst, src_tup, ix_t0, ix_t1, ix_t2, ix_t3, ix_l0, ix_l1, ix_l2, is_non, and_true, true_and])
  rw [q_ret]
  (try simp only [List.cons_append, List.nil_append, w_var, t_var, w_int, w_str, w_bl, w_non, w_gl, w_bin, w_neg, t_cmp, w_cmp, t_chain, w_chain, t_isC, w_isC, w_isi, t_isi, t_bop1, t_bop, w_bop1, w_bop, t_nt, w_nt, w_ite, t_ite, w_nil, w_cons, a_tup, w_fz, w_mu, a_disp, a_comp, w_ofSeq, w_call, w_prim, w_ix, w_sl, w_rev, w_pop, w_popAt, w_app, e_nop, e_int, e_var, e_bin, i_seq, a_rng, rngA_int, a_rng2, rngB_int, a_zip, zipA_some, a_enum, enA_some, src_tsI, src_lsI, t_call, t_prim, tru_bl, opt_some, t_nop, List.getElem?_cons_zero, List.getElem?_cons_succ, setTg, setTgs, List.set_cons_zero, List.set_cons_succ, wp_ok, wipeE, len0, len1, len2, len3, len4, len5, len6, len7, len8, len9, len10, if_true, if_false, Bool.false_eq_true, eq_int, ne_int, gt_int, lt_int', le_int', ge_int', add_int, sub_int, abs_int, int_int, Option.map_some, src_lst, src_tup, ix_t0, ix_t1, ix_t2, ix_t3, ix_l0, ix_l1, ix_l2, is_non, and_true, true_and, l1])
  rw [comp_all (fun w => pr (prOf base extra s w)) rfl (fun w hw => by
    have d1 := h26 S extra w (ws_bd he) (way_bd hs hw) (by rw [he.len]; omega)
    have d2 := h26 S base w (ws_bd hb) (way_bd hs hw) (by rw [hb.len]; omega)
    (try simp only [exs_nil, q_asg, kA_eq, kR_eq, q_drop, kD_eq, q_ret, q_if, kI_t, kI_f, q_set, kS_eq, q_pass, q_brk, q_cont, q_for, kF_eq, List.cons_append, List.nil_append, w_var, t_var, w_int, w_str, w_bl, w_non, w_gl, w_bin, w_neg, t_cmp, w_cmp, t_chain, w_chain, t_isC, w_isC, w_isi, t_isi, t_bop1, t_bop, w_bop1, w_bop, t_nt, w_nt, w_ite, t_ite, w_nil, w_cons, a_tup, w_fz, w_mu, a_disp, a_comp, w_ofSeq, w_call, w_prim, w_ix, w_sl, w_rev, w_pop, w_popAt, w_app, e_nop, e_int, e_var, e_bin, i_seq, a_rng, rngA_int, a_rng2, rngB_int, a_zip, zipA_some, a_enum, enA_some, src_tsI, src_lsI, t_call, t_prim, tru_bl, opt_some, t_nop, List.getElem?_cons_zero, List.getElem?_cons_succ, setTg, setTgs, List.set_cons_zero, List.set_cons_succ, wp_ok, wipeE, len0, len1, len2, len3, len4, len5, len6, len7, len8, len9, len10, if_true, if_false, Bool.false_eq_true, eq_int, ne_int, gt_int, lt_int', le_int', ge_int', add_int, sub_int, abs_int, int_int, Option.map_some, src_lst, src_tup, ix_t0, ix_t1, ix_t2, ix_t3, ix_l0, ix_l1, ix_l2, is_non, and_true, true_and, d1, d2])
    rfl)]
  (try simp only [List.cons_append, List.nil_append, w_var, t_var, w_int, w_str, w_bl, w_non, w_gl, w_bin, w_neg, t_cmp, w_cmp, t_chain, w_chain, t_isC, w_isC, w_isi, t_isi, t_bop1, t_bop, w_bop1, w_bop, t_nt, w_nt, w_ite, t_ite, w_nil, w_cons, a_tup, w_fz, w_mu, a_disp, a_comp, w_ofSeq, w_call, w_prim, w_ix, w_sl, w_rev, w_pop, w_popAt, w_app, e_nop, e_int, e_var, e_bin, i_seq, a_rng, rngA_int, a_rng2, rngB_int, a_zip, zipA_some, a_enum, enA_some, src_tsI, src_lsI, t_call, t_prim, tru_bl, opt_some, t_nop, List.getElem?_cons_zero, List.getElem?_cons_succ, setTg, setTgs, List.set_cons_zero, List.set_cons_succ, wp_ok, wipeE, len0, len1, len2, len3, len4, len5, len6, len7, len8, len9, len10, if_true, if_false, Bool.false_eq_true, eq_int, ne_int, gt_int, lt_int', le_int', ge_int', add_int, sub_int, abs_int, int_int, Option.map_some, src_lst, src_tup, ix_t0, ix_t1, ix_t2, ix_t3, ix_l0, ix_l1, ix_l2, is_non, and_true, true_and])
  unfold prs
  rw [List.map_map]
  rfl
/-! ### the range -/
def hiT : Option (Int × Int) → Tv
  | none => .non
  | some h => pr h
def PRes (L : List (Int × Int)) (t : Tv) : Prop := (Qp.bad L ∧ t = .non) ∨ (¬ Qp.bad L ∧ ∃ low high, Qp.PR L low high ∧ ((Qp.cross low high ∧ t = .non) ∨ (¬ Qp.cross low high ∧ t = .tup [pr low, hiT high])))
theorem red_small {a b : Int} (hb : 0 < b) : (Qp.red a b).1.natAbs ≤ a.natAbs ∧ (Qp.red a b).2.natAbs ≤ b.natAbs := by
  have g := Qp.g_pos (a := a) hb
  refine ⟨?_, ?_⟩
  · show (a / (Int.gcd a b : Int)).natAbs ≤ _
    rw [Int.natAbs_ediv_of_dvd (Int.gcd_dvd_left ..)]
    exact Nat.div_le_self _ _
  · show (b / (Int.gcd a b : Int)).natAbs ≤ _
    rw [Int.natAbs_ediv_of_dvd (Int.gcd_dvd_right ..)]
    exact Nat.div_le_self _ _
theorem PR_small {L : List (Int × Int)} {low : Int × Int} {high : Option (Int × Int)} {B : Nat} (hB : 1 ≤ B) (h : Qp.PR L low high) (hs : ∀ p ∈ L, p.1.natAbs ≤ B ∧ p.2.natAbs ≤ B) :
    (low.1.natAbs ≤ B ∧ low.2.natAbs ≤ B) ∧ ∀ g, high = some g → g.1.natAbs ≤ B ∧ g.2.natAbs ≤ B := by
  refine ⟨?_, fun g e => ?_⟩
  · rcases h.loIn with e | ⟨p, hp, h1, h2, e⟩
    · rw [e]
      exact ⟨by simp, by simpa using hB⟩
    · have r := red_small (a := -p.2) (b := -p.1) (by omega)
      have q := hs p hp
      rw [← e] at r
      omega
  · obtain ⟨p, hp, h1, e⟩ := h.hiIn g e
    have r := red_small (a := p.2) (b := p.1) h1
    have q := hs p hp
    rw [← e] at r
    omega
theorem is_some' {S : Sto} {p : Int × Int} : isCV none (pr p) = some false := rfl
theorem bad_app {A : List (Int × Int)} {p : Int × Int} : Qp.bad (A ++ [p]) ↔ Qp.bad A ∨ (p.1 = 0 ∧ p.2 < 0) := by
  unfold Qp.bad
  constructor
  · rintro ⟨q, hq, h⟩
    rcases List.mem_append.mp hq with e | e
    · exact .inl ⟨q, e, h⟩
    · rw [List.mem_singleton.mp e] at h
      exact .inr h
  · rintro (⟨q, hq, h⟩ | h)
    · exact ⟨q, by simp [hq], h⟩
    · exact ⟨p, by simp, h⟩
theorem nb_not {c : Bool} : (if c = true then (1 : Int) else 0) = if c = true then 1 else 0 := rfl
theorem penaltyRange_ok {cf : Nat → List Tv → M Tv}
    (h3 : ∀ (S : Sto) (a c : Int × Int), (a.1.natAbs ≤ 4800 ∧ a.2.natAbs ≤ 4800) → (c.1.natAbs ≤ 4800 ∧ c.2.natAbs ≤ 4800) → cf 3 [pr a, pr c] S = .ok (.bl (decide (Qp.lt a c))) S)
    (h2 : ∀ (S : Sto) (a b : Int), 0 < b → a.natAbs ≤ 4800 → b.natAbs ≤ 4800 → cf 2 [.int a, .int b] S = .ok (pr (Qp.red a b)) S)
    {n : Nat} (h27 : ∀ (S : Sto) (base extra : List Int) (s : Sg), WsOk n base → WsOk n extra → SgOk n s → cf 27 [tsI base, tsI extra, sgT s] S = .ok (.lst ((prs base extra s).map pr)) S)
    {S : Sto} {base extra : List Int} {ss : List Sg} (hb : WsOk n base) (he : WsOk n extra) (hn : n ≤ 4) (hs : ∀ s ∈ ss, SgOk n s) :
    ∃ t, runD cf xPenaltyRange [tsI base, tsI extra, .tup (ss.map sgT)] S = .ok t S ∧ PRes (allP base extra ss) t := by
  refine run_pure rfl ?_
  show (exs cf Fu xPenaltyRange.body [some (tsI base), some (tsI extra), some (.tup (ss.map sgT)), none, none, none, none, none] S).wp _
  unfold xPenaltyRange
  have small := all_small hb he hn hs
  rw [q_asg]
  (try simp only [List.cons_append, List.nil_append, w_var, t_var, w_int, w_str, w_bl, w_non, w_gl, w_bin, w_neg, t_cmp, w_cmp, t_chain, w_chain, t_isC, w_isC, w_isi, t_isi, t_bop1, t_bop, w_bop1, w_bop, t_nt, w_nt, w_ite, t_ite, w_nil, w_cons, a_tup, w_fz, w_mu, a_disp, a_comp, w_ofSeq, w_call, w_prim, w_ix, w_sl, w_rev, w_pop, w_popAt, w_app, e_nop, e_int, e_var, e_bin, i_seq, a_rng, rngA_int, a_rng2, rngB_int, a_zip, zipA_some, a_enum, enA_some, src_tsI, src_lsI, t_call, t_prim, tru_bl, opt_some, t_nop, List.getElem?_cons_zero, List.getElem?_cons_succ, setTg, setTgs, List.set_cons_zero, List.set_cons_succ, wp_ok, wipeE, len0, len1, len2, len3, len4, len5, len6, len7, len8, len9, len10, if_true, if_false, Bool.false_eq_true, eq_int, ne_int, gt_int, lt_int', le_int', ge_int', add_int, sub_int, abs_int, int_int, Option.map_some, src_lst, src_tup, ix_t0, ix_t1, ix_t2, ix_t3, ix_l0, ix_l1, ix_l2, is_non, and_true, true_and])
  rw [kA_eq]
  (try simp only [List.cons_append, List.nil_append, w_var, t_var, w_int, w_str, w_bl, w_non, w_gl, w_bin, w_neg, t_cmp, w_cmp, t_chain, w_chain, t_isC, w_isC, w_isi, t_isi, t_bop1, t_bop, w_bop1, w_bop, t_nt, w_nt, w_ite, t_ite, w_nil, w_cons, a_tup, w_fz, w_mu, a_disp, a_comp, w_ofSeq, w_call, w_prim, w_ix, w_sl, w_rev, w_pop, w_popAt, w_app, e_nop, e_int, e_var, e_bin, i_seq, a_rng, rngA_int, a_rng2, rngB_int, a_zip, zipA_some, a_enum, enA_some, src_tsI, src_lsI, t_call, t_prim, tru_bl, opt_some, t_nop, List.getElem?_cons_zero, List.getElem?_cons_succ, setTg, setTgs, List.set_cons_zero, List.set_cons_succ, wp_ok, wipeE, len0, len1, len2, len3, len4, len5, len6, len7, len8, len9, len10, if_true, if_false, Bool.false_eq_true, eq_int, ne_int, gt_int, lt_int', le_int', ge_int', add_int, sub_int, abs_int, int_int, Option.map_some, src_lst, src_tup, ix_t0, ix_t1, ix_t2, ix_t3, ix_l0, ix_l1, ix_l2, is_non, and_true, true_and])
  rw [q_for]
  (try simp only [List.cons_append, List.nil_append, w_var, t_var, w_int, w_str, w_bl, w_non, w_gl, w_bin, w_neg, t_cmp, w_cmp, t_chain, w_chain, t_isC, w_isC, w_isi, t_isi, t_bop1, t_bop, w_bop1, w_bop, t_nt, w_nt, w_ite, t_ite, w_nil, w_cons, a_tup, w_fz, w_mu, a_disp, a_comp, w_ofSeq, w_call, w_prim, w_ix, w_sl, w_rev, w_pop, w_popAt, w_app, e_nop, e_int, e_var, e_bin, i_seq, a_rng, rngA_int, a_rng2, rngB_int, a_zip, zipA_some, a_enum, enA_some, src_tsI, src_lsI, t_call, t_prim, tru_bl, opt_some, t_nop, List.getElem?_cons_zero, List.getElem?_cons_succ, setTg, setTgs, List.set_cons_zero, List.set_cons_succ, wp_ok, wipeE, len0, len1, len2, len3, len4, len5, len6, len7, len8, len9, len10, if_true, if_false, Bool.false_eq_true, eq_int, ne_int, gt_int, lt_int', le_int', ge_int', add_int, sub_int, abs_int, int_int, Option.map_some, src_lst, src_tup, ix_t0, ix_t1, ix_t2, ix_t3, ix_l0, ix_l1, ix_l2, is_non, and_true, true_and])
  rw [kF_eq]
  refine for_on (fun dn r env S' => S' = S ∧ ∃ (j3 j6 j7 : Option Tv) (low : Int × Int) (high : Option (Int × Int)), env = [some (tsI base), some (tsI extra), some (.tup (ss.map sgT)), j3, some (pr low), some (hiT high), j6, j7] ∧ Qp.PR (allP base extra dn) low high ∧ ¬ Qp.bad (allP base extra dn)) (fun _ _ _ _ _ => rfl) ?_ ?_ ⟨rfl, none, none, none, (0, 1), none, rfl, Qp.PR.nil, fun ⟨p, hp, _⟩ => (List.not_mem_nil hp).elim⟩
  · rintro dn s r env S' hx ⟨rfl, j3, j6, j7, low, high, rfl, hP, hnb⟩
    have sm : s ∈ ss := by rw [hx]; simp
    have e27 := h27 S' base extra s hb he (hs s sm)
    have e0 : ∀ k : List (Int × Int), allP base extra dn ++ k = (allP base extra dn ++ k) := fun _ => rfl
    have sub : ∀ p ∈ prs base extra s, p ∈ allP base extra ss := fun p hp => List.mem_flatten.mpr ⟨_, List.mem_map.mpr ⟨s, sm, rfl⟩, hp⟩
    have subd : ∀ p ∈ allP base extra dn, p ∈ allP base extra ss := fun p hp => by
      obtain ⟨l, hl, hpl⟩ := List.mem_flatten.mp hp
      obtain ⟨u, hu, rfl⟩ := List.mem_map.mp hl
      exact List.mem_flatten.mpr ⟨_, List.mem_map.mpr ⟨u, by rw [hx]; simp [hu], rfl⟩, hpl⟩
    (try simp only [List.cons_append, List.nil_append, w_var, t_var, w_int, w_str, w_bl, w_non, w_gl, w_bin, w_neg, t_cmp, w_cmp, t_chain, w_chain, t_isC, w_isC, w_isi, t_isi, t_bop1, t_bop, w_bop1, w_bop, t_nt, w_nt, w_ite, t_ite, w_nil, w_cons, a_tup, w_fz, w_mu, a_disp, a_comp, w_ofSeq, w_call, w_prim, w_ix, w_sl, w_rev, w_pop, w_popAt, w_app, e_nop, e_int, e_var, e_bin, i_seq, a_rng, rngA_int, a_rng2, rngB_int, a_zip, zipA_some, a_enum, enA_some, src_tsI, src_lsI, t_call, t_prim, tru_bl, opt_some, t_nop, List.getElem?_cons_zero, List.getElem?_cons_succ, setTg, setTgs, List.set_cons_zero, List.set_cons_succ, wp_ok, wipeE, len0, len1, len2, len3, len4, len5, len6, len7, len8, len9, len10, if_true, if_false, Bool.false_eq_true, eq_int, ne_int, gt_int, lt_int', le_int', ge_int', add_int, sub_int, abs_int, int_int, Option.map_some, src_lst, src_tup, ix_t0, ix_t1, ix_t2, ix_t3, ix_l0, ix_l1, ix_l2, is_non, and_true, true_and])
    rw [q_for]
    (try simp only [List.cons_append, List.nil_append, w_var, t_var, w_int, w_str, w_bl, w_non, w_gl, w_bin, w_neg, t_cmp, w_cmp, t_chain, w_chain, t_isC, w_isC, w_isi, t_isi, t_bop1, t_bop, w_bop1, w_bop, t_nt, w_nt, w_ite, t_ite, w_nil, w_cons, a_tup, w_fz, w_mu, a_disp, a_comp, w_ofSeq, w_call, w_prim, w_ix, w_sl, w_rev, w_pop, w_popAt, w_app, e_nop, e_int, e_var, e_bin, i_seq, a_rng, rngA_int, a_rng2, rngB_int, a_zip, zipA_some, a_enum, enA_some, src_tsI, src_lsI, t_call, t_prim, tru_bl, opt_some, t_nop, List.getElem?_cons_zero, List.getElem?_cons_succ, setTg, setTgs, List.set_cons_zero, List.set_cons_succ, wp_ok, wipeE, len0, len1, len2, len3, len4, len5, len6, len7, len8, len9, len10, if_true, if_false, Bool.false_eq_true, eq_int, ne_int, gt_int, lt_int', le_int', ge_int', add_int, sub_int, abs_int, int_int, Option.map_some, src_lst, src_tup, ix_t0, ix_t1, ix_t2, ix_t3, ix_l0, ix_l1, ix_l2, is_non, and_true, true_and, e27])
    rw [kF_eq]
    refine for_on (fun dn2 r2 env S'' => S'' = S' ∧ ∃ (j6 j7 : Option Tv) (low : Int × Int) (high : Option (Int × Int)), env = [some (tsI base), some (tsI extra), some (.tup (ss.map sgT)), some (sgT s), some (pr low), some (hiT high), j6, j7] ∧ Qp.PR (allP base extra dn ++ dn2) low high ∧ ¬ Qp.bad (allP base extra dn ++ dn2)) (fun _ _ _ _ _ => rfl) ?_ ?_ ⟨rfl, j6, j7, low, high, rfl, by simpa using hP, by simpa using hnb⟩
    · clear hP hnb
      rintro dn2 p r2 env S'' hx2 ⟨rfl, j6, j7, low, high, rfl, hP, hnb⟩
      have pm : p ∈ prs base extra s := by rw [hx2]; simp
      have ps := small p (sub p pm)
      have lsm := PR_small (B := 4800) (by decide) hP (fun q hq => by
        rcases List.mem_append.mp hq with e | e
        · exact small q (subd q e)
        · exact small q (sub q (by rw [hx2]; simp [e])))
      obtain ⟨t, m⟩ := p
      simp only at ps
      have e3 := h3 S'' (m, t)
      have e3' := h3 S'' low (0 - m, 0 - t) lsm.1 (by simp only; omega)
      have lp := hP.lo_pos
      have as1 : ∀ x : Int × Int, allP base extra dn ++ (dn2 ++ [x]) = allP base extra dn ++ dn2 ++ [x] := fun x => by simp
      -- what stands behind a pair
      have on : ∀ (low' : Int × Int) (high' : Option (Int × Int)), Qp.PR (allP base extra dn ++ (dn2 ++ [(t, m)])) low' high' → ¬ (t = 0 ∧ m < 0) →
          (S'' = S'' ∧ ∃ (j6 j7 : Option Tv) (low : Int × Int) (high : Option (Int × Int)), [some (tsI base), some (tsI extra), some (Tv.tup (ss.map sgT)), some (sgT s), some (pr low'), some (hiT high'), some (.int t), some (.int m)] = [some (tsI base), some (tsI extra), some (Tv.tup (ss.map sgT)), some (sgT s), some (pr low), some (hiT high), j6, j7] ∧ Qp.PR (allP base extra dn ++ (dn2 ++ [(t, m)])) low high ∧ ¬ Qp.bad (allP base extra dn ++ (dn2 ++ [(t, m)]))) := fun low' high' h1 h2 =>
        ⟨rfl, _, _, low', high', rfl, h1, by rw [as1, bad_app]; exact fun z => z.elim hnb h2⟩
      simp only [pr, setTg, setTgs, List.set_cons_zero, List.set_cons_succ]
      rw [q_if]
      (try simp only [List.cons_append, List.nil_append, w_var, t_var, w_int, w_str, w_bl, w_non, w_gl, w_bin, w_neg, t_cmp, w_cmp, t_chain, w_chain, t_isC, w_isC, w_isi, t_isi, t_bop1, t_bop, w_bop1, w_bop, t_nt, w_nt, w_ite, t_ite, w_nil, w_cons, a_tup, w_fz, w_mu, a_disp, a_comp, w_ofSeq, w_call, w_prim, w_ix, w_sl, w_rev, w_pop, w_popAt, w_app, e_nop, e_int, e_var, e_bin, i_seq, a_rng, rngA_int, a_rng2, rngB_int, a_zip, zipA_some, a_enum, enA_some, src_tsI, src_lsI, t_call, t_prim, tru_bl, opt_some, t_nop, List.getElem?_cons_zero, List.getElem?_cons_succ, setTg, setTgs, List.set_cons_zero, List.set_cons_succ, wp_ok, wipeE, len0, len1, len2, len3, len4, len5, len6, len7, len8, len9, len10, if_true, if_false, Bool.false_eq_true, eq_int, ne_int, gt_int, lt_int', le_int', ge_int', add_int, sub_int, abs_int, int_int, Option.map_some, src_lst, src_tup, ix_t0, ix_t1, ix_t2, ix_t3, ix_l0, ix_l1, ix_l2, is_non, and_true, true_and])
      by_cases t0 : t = 0
      · by_cases m0 : m < 0
        · simp only [show (t == 0) = true by simp [t0], decide_eq_true m0, if_true]
          rw [kI_t]
          (try simp only [exs_nil, q_asg, kA_eq, kR_eq, q_drop, kD_eq, q_ret, q_if, kI_t, kI_f, q_set, kS_eq, q_pass, q_brk, q_cont, q_for, kF_eq, List.cons_append, List.nil_append, w_var, t_var, w_int, w_str, w_bl, w_non, w_gl, w_bin, w_neg, t_cmp, w_cmp, t_chain, w_chain, t_isC, w_isC, w_isi, t_isi, t_bop1, t_bop, w_bop1, w_bop, t_nt, w_nt, w_ite, t_ite, w_nil, w_cons, a_tup, w_fz, w_mu, a_disp, a_comp, w_ofSeq, w_call, w_prim, w_ix, w_sl, w_rev, w_pop, w_popAt, w_app, e_nop, e_int, e_var, e_bin, i_seq, a_rng, rngA_int, a_rng2, rngB_int, a_zip, zipA_some, a_enum, enA_some, src_tsI, src_lsI, t_call, t_prim, tru_bl, opt_some, t_nop, List.getElem?_cons_zero, List.getElem?_cons_succ, setTg, setTgs, List.set_cons_zero, List.set_cons_succ, wp_ok, wipeE, len0, len1, len2, len3, len4, len5, len6, len7, len8, len9, len10, if_true, if_false, Bool.false_eq_true, eq_int, ne_int, gt_int, lt_int', le_int', ge_int', add_int, sub_int, abs_int, int_int, Option.map_some, src_lst, src_tup, ix_t0, ix_t1, ix_t2, ix_t3, ix_l0, ix_l1, ix_l2, is_non, and_true, true_and])
          exact .inl ⟨⟨(t, m), sub _ pm, t0, m0⟩, rfl⟩
        · simp only [show (t == 0) = true by simp [t0], decide_eq_false m0, if_true]
          rw [kI_f, List.nil_append, q_if]
          (try simp only [List.cons_append, List.nil_append, w_var, t_var, w_int, w_str, w_bl, w_non, w_gl, w_bin, w_neg, t_cmp, w_cmp, t_chain, w_chain, t_isC, w_isC, w_isi, t_isi, t_bop1, t_bop, w_bop1, w_bop, t_nt, w_nt, w_ite, t_ite, w_nil, w_cons, a_tup, w_fz, w_mu, a_disp, a_comp, w_ofSeq, w_call, w_prim, w_ix, w_sl, w_rev, w_pop, w_popAt, w_app, e_nop, e_int, e_var, e_bin, i_seq, a_rng, rngA_int, a_rng2, rngB_int, a_zip, zipA_some, a_enum, enA_some, src_tsI, src_lsI, t_call, t_prim, tru_bl, opt_some, t_nop, List.getElem?_cons_zero, List.getElem?_cons_succ, setTg, setTgs, List.set_cons_zero, List.set_cons_succ, wp_ok, wipeE, len0, len1, len2, len3, len4, len5, len6, len7, len8, len9, len10, if_true, if_false, Bool.false_eq_true, eq_int, ne_int, gt_int, lt_int', le_int', ge_int', add_int, sub_int, abs_int, int_int, Option.map_some, src_lst, src_tup, ix_t0, ix_t1, ix_t2, ix_t3, ix_l0, ix_l1, ix_l2, is_non, and_true, true_and])
          simp only [decide_eq_false (show ¬ 0 < t by omega), Bool.false_eq_true, if_false]
          rw [kI_f, List.nil_append, q_if]
          (try simp only [List.cons_append, List.nil_append, w_var, t_var, w_int, w_str, w_bl, w_non, w_gl, w_bin, w_neg, t_cmp, w_cmp, t_chain, w_chain, t_isC, w_isC, w_isi, t_isi, t_bop1, t_bop, w_bop1, w_bop, t_nt, w_nt, w_ite, t_ite, w_nil, w_cons, a_tup, w_fz, w_mu, a_disp, a_comp, w_ofSeq, w_call, w_prim, w_ix, w_sl, w_rev, w_pop, w_popAt, w_app, e_nop, e_int, e_var, e_bin, i_seq, a_rng, rngA_int, a_rng2, rngB_int, a_zip, zipA_some, a_enum, enA_some, src_tsI, src_lsI, t_call, t_prim, tru_bl, opt_some, t_nop, List.getElem?_cons_zero, List.getElem?_cons_succ, setTg, setTgs, List.set_cons_zero, List.set_cons_succ, wp_ok, wipeE, len0, len1, len2, len3, len4, len5, len6, len7, len8, len9, len10, if_true, if_false, Bool.false_eq_true, eq_int, ne_int, gt_int, lt_int', le_int', ge_int', add_int, sub_int, abs_int, int_int, Option.map_some, src_lst, src_tup, ix_t0, ix_t1, ix_t2, ix_t3, ix_l0, ix_l1, ix_l2, is_non, and_true, true_and])
          simp only [decide_eq_false (show ¬ t < 0 by omega), Bool.false_eq_true, if_false]
          rw [kI_f, List.nil_append, exs_nil]
          refine on low high ?_ (fun z => m0 z.2)
          have := hP.low_step t m (by omega)
          rw [if_neg (fun z => by omega)] at this
          rw [as1]
          exact this
      · simp only [show (t == 0) = false by simp [t0], Bool.false_eq_true, if_false]
        rw [kI_f, List.nil_append, q_if]
        (try simp only [List.cons_append, List.nil_append, w_var, t_var, w_int, w_str, w_bl, w_non, w_gl, w_bin, w_neg, t_cmp, w_cmp, t_chain, w_chain, t_isC, w_isC, w_isi, t_isi, t_bop1, t_bop, w_bop1, w_bop, t_nt, w_nt, w_ite, t_ite, w_nil, w_cons, a_tup, w_fz, w_mu, a_disp, a_comp, w_ofSeq, w_call, w_prim, w_ix, w_sl, w_rev, w_pop, w_popAt, w_app, e_nop, e_int, e_var, e_bin, i_seq, a_rng, rngA_int, a_rng2, rngB_int, a_zip, zipA_some, a_enum, enA_some, src_tsI, src_lsI, t_call, t_prim, tru_bl, opt_some, t_nop, List.getElem?_cons_zero, List.getElem?_cons_succ, setTg, setTgs, List.set_cons_zero, List.set_cons_succ, wp_ok, wipeE, len0, len1, len2, len3, len4, len5, len6, len7, len8, len9, len10, if_true, if_false, Bool.false_eq_true, eq_int, ne_int, gt_int, lt_int', le_int', ge_int', add_int, sub_int, abs_int, int_int, Option.map_some, src_lst, src_tup, ix_t0, ix_t1, ix_t2, ix_t3, ix_l0, ix_l1, ix_l2, is_non, and_true, true_and])
        by_cases tp : 0 < t
        · simp only [decide_eq_true tp, if_true]
          have last : ∀ (hi : Option (Int × Int)), Qp.PR (allP base extra dn ++ (dn2 ++ [(t, m)])) low hi → ∀ (D : Po), (∀ e S, (S = S'' ∧ ∃ (j6 j7 : Option Tv) (low : Int × Int) (high : Option (Int × Int)), e = [some (tsI base), some (tsI extra), some (Tv.tup (ss.map sgT)), some (sgT s), some (pr low), some (hiT high), j6, j7] ∧ Qp.PR (allP base extra dn ++ (dn2 ++ [(t, m)])) low high ∧ ¬ Qp.bad (allP base extra dn ++ (dn2 ++ [(t, m)]))) → D.nx e S) →
              (exs cf Fu [.ifS (.bop true [(.cmp .lt (.var 6) (.int 0)), (.call 3 [(.var 4), (.tup [(.bin .sub (.int 0) (.var 7)), (.bin .sub (.int 0) (.var 6))])])])
              [
                .asg (.v 4) (.call 2 [(.bin .sub (.int 0) (.var 7)), (.bin .sub (.int 0) (.var 6))])]
              []] [some (tsI base), some (tsI extra), some (Tv.tup (ss.map sgT)), some (sgT s), some (pr low), some (hiT hi), some (.int t), some (.int m)] S'').wp D := by
            intro hi hPR D hD
            rw [q_if]
            (try simp only [List.cons_append, List.nil_append, w_var, t_var, w_int, w_str, w_bl, w_non, w_gl, w_bin, w_neg, t_cmp, w_cmp, t_chain, w_chain, t_isC, w_isC, w_isi, t_isi, t_bop1, t_bop, w_bop1, w_bop, t_nt, w_nt, w_ite, t_ite, w_nil, w_cons, a_tup, w_fz, w_mu, a_disp, a_comp, w_ofSeq, w_call, w_prim, w_ix, w_sl, w_rev, w_pop, w_popAt, w_app, e_nop, e_int, e_var, e_bin, i_seq, a_rng, rngA_int, a_rng2, rngB_int, a_zip, zipA_some, a_enum, enA_some, src_tsI, src_lsI, t_call, t_prim, tru_bl, opt_some, t_nop, List.getElem?_cons_zero, List.getElem?_cons_succ, setTg, setTgs, List.set_cons_zero, List.set_cons_succ, wp_ok, wipeE, len0, len1, len2, len3, len4, len5, len6, len7, len8, len9, len10, if_true, if_false, Bool.false_eq_true, eq_int, ne_int, gt_int, lt_int', le_int', ge_int', add_int, sub_int, abs_int, int_int, Option.map_some, src_lst, src_tup, ix_t0, ix_t1, ix_t2, ix_t3, ix_l0, ix_l1, ix_l2, is_non, and_true, true_and])
            simp only [decide_eq_false (show ¬ t < 0 by omega), Bool.false_eq_true, if_false]
            rw [kI_f, List.nil_append, exs_nil]
            exact hD _ _ (on low hi hPR (fun z => t0 z.1))
          cases hh : high with
          | none =>
            simp only [hiT]
            (try simp only [List.cons_append, List.nil_append, w_var, t_var, w_int, w_str, w_bl, w_non, w_gl, w_bin, w_neg, t_cmp, w_cmp, t_chain, w_chain, t_isC, w_isC, w_isi, t_isi, t_bop1, t_bop, w_bop1, w_bop, t_nt, w_nt, w_ite, t_ite, w_nil, w_cons, a_tup, w_fz, w_mu, a_disp, a_comp, w_ofSeq, w_call, w_prim, w_ix, w_sl, w_rev, w_pop, w_popAt, w_app, e_nop, e_int, e_var, e_bin, i_seq, a_rng, rngA_int, a_rng2, rngB_int, a_zip, zipA_some, a_enum, enA_some, src_tsI, src_lsI, t_call, t_prim, tru_bl, opt_some, t_nop, List.getElem?_cons_zero, List.getElem?_cons_succ, setTg, setTgs, List.set_cons_zero, List.set_cons_succ, wp_ok, wipeE, len0, len1, len2, len3, len4, len5, len6, len7, len8, len9, len10, if_true, if_false, Bool.false_eq_true, eq_int, ne_int, gt_int, lt_int', le_int', ge_int', add_int, sub_int, abs_int, int_int, Option.map_some, src_lst, src_tup, ix_t0, ix_t1, ix_t2, ix_t3, ix_l0, ix_l1, ix_l2, is_non, and_true, true_and])
            rw [kI_t]
            simp only [List.cons_append, List.nil_append]
            rw [q_asg]
            (try simp only [List.cons_append, List.nil_append, w_var, t_var, w_int, w_str, w_bl, w_non, w_gl, w_bin, w_neg, t_cmp, w_cmp, t_chain, w_chain, t_isC, w_isC, w_isi, t_isi, t_bop1, t_bop, w_bop1, w_bop, t_nt, w_nt, w_ite, t_ite, w_nil, w_cons, a_tup, w_fz, w_mu, a_disp, a_comp, w_ofSeq, w_call, w_prim, w_ix, w_sl, w_rev, w_pop, w_popAt, w_app, e_nop, e_int, e_var, e_bin, i_seq, a_rng, rngA_int, a_rng2, rngB_int, a_zip, zipA_some, a_enum, enA_some, src_tsI, src_lsI, t_call, t_prim, tru_bl, opt_some, t_nop, List.getElem?_cons_zero, List.getElem?_cons_succ, setTg, setTgs, List.set_cons_zero, List.set_cons_succ, wp_ok, wipeE, len0, len1, len2, len3, len4, len5, len6, len7, len8, len9, len10, if_true, if_false, Bool.false_eq_true, eq_int, ne_int, gt_int, lt_int', le_int', ge_int', add_int, sub_int, abs_int, int_int, Option.map_some, src_lst, src_tup, ix_t0, ix_t1, ix_t2, ix_t3, ix_l0, ix_l1, ix_l2, is_non, and_true, true_and, h2 S'' m t tp ps.2 ps.1])
            rw [kA_eq]
            (try simp only [List.cons_append, List.nil_append, w_var, t_var, w_int, w_str, w_bl, w_non, w_gl, w_bin, w_neg, t_cmp, w_cmp, t_chain, w_chain, t_isC, w_isC, w_isi, t_isi, t_bop1, t_bop, w_bop1, w_bop, t_nt, w_nt, w_ite, t_ite, w_nil, w_cons, a_tup, w_fz, w_mu, a_disp, a_comp, w_ofSeq, w_call, w_prim, w_ix, w_sl, w_rev, w_pop, w_popAt, w_app, e_nop, e_int, e_var, e_bin, i_seq, a_rng, rngA_int, a_rng2, rngB_int, a_zip, zipA_some, a_enum, enA_some, src_tsI, src_lsI, t_call, t_prim, tru_bl, opt_some, t_nop, List.getElem?_cons_zero, List.getElem?_cons_succ, setTg, setTgs, List.set_cons_zero, List.set_cons_succ, wp_ok, wipeE, len0, len1, len2, len3, len4, len5, len6, len7, len8, len9, len10, if_true, if_false, Bool.false_eq_true, eq_int, ne_int, gt_int, lt_int', le_int', ge_int', add_int, sub_int, abs_int, int_int, Option.map_some, src_lst, src_tup, ix_t0, ix_t1, ix_t2, ix_t3, ix_l0, ix_l1, ix_l2, is_non, and_true, true_and])
            exact last (some (Qp.red m t)) (by rw [as1]; exact hP.high_step t m tp (.inl ⟨rfl, fun g e => by rw [hh] at e; cases e⟩)) _ fun _ _ h => h
          | some g =>
            have gs := lsm.2 g hh
            have e3g := e3 g (by simp only; omega) gs
            simp only [hiT]
            simp only [pr] at e3g
            (try simp only [List.cons_append, List.nil_append, w_var, t_var, w_int, w_str, w_bl, w_non, w_gl, w_bin, w_neg, t_cmp, w_cmp, t_chain, w_chain, t_isC, w_isC, w_isi, t_isi, t_bop1, t_bop, w_bop1, w_bop, t_nt, w_nt, w_ite, t_ite, w_nil, w_cons, a_tup, w_fz, w_mu, a_disp, a_comp, w_ofSeq, w_call, w_prim, w_ix, w_sl, w_rev, w_pop, w_popAt, w_app, e_nop, e_int, e_var, e_bin, i_seq, a_rng, rngA_int, a_rng2, rngB_int, a_zip, zipA_some, a_enum, enA_some, src_tsI, src_lsI, t_call, t_prim, tru_bl, opt_some, t_nop, List.getElem?_cons_zero, List.getElem?_cons_succ, setTg, setTgs, List.set_cons_zero, List.set_cons_succ, wp_ok, wipeE, len0, len1, len2, len3, len4, len5, len6, len7, len8, len9, len10, if_true, if_false, Bool.false_eq_true, eq_int, ne_int, gt_int, lt_int', le_int', ge_int', add_int, sub_int, abs_int, int_int, Option.map_some, src_lst, src_tup, ix_t0, ix_t1, ix_t2, ix_t3, ix_l0, ix_l1, ix_l2, is_non, and_true, true_and, pr, is_some' (S := S'') (p := g), e3g])
            by_cases lt : Qp.lt (m, t) g
            · rw [show (isCV none (Tv.tup [Tv.int g.1, Tv.int g.2])) = some false from rfl]
              (try simp only [List.cons_append, List.nil_append, w_var, t_var, w_int, w_str, w_bl, w_non, w_gl, w_bin, w_neg, t_cmp, w_cmp, t_chain, w_chain, t_isC, w_isC, w_isi, t_isi, t_bop1, t_bop, w_bop1, w_bop, t_nt, w_nt, w_ite, t_ite, w_nil, w_cons, a_tup, w_fz, w_mu, a_disp, a_comp, w_ofSeq, w_call, w_prim, w_ix, w_sl, w_rev, w_pop, w_popAt, w_app, e_nop, e_int, e_var, e_bin, i_seq, a_rng, rngA_int, a_rng2, rngB_int, a_zip, zipA_some, a_enum, enA_some, src_tsI, src_lsI, t_call, t_prim, tru_bl, opt_some, t_nop, List.getElem?_cons_zero, List.getElem?_cons_succ, setTg, setTgs, List.set_cons_zero, List.set_cons_succ, wp_ok, wipeE, len0, len1, len2, len3, len4, len5, len6, len7, len8, len9, len10, if_true, if_false, Bool.false_eq_true, eq_int, ne_int, gt_int, lt_int', le_int', ge_int', add_int, sub_int, abs_int, int_int, Option.map_some, src_lst, src_tup, ix_t0, ix_t1, ix_t2, ix_t3, ix_l0, ix_l1, ix_l2, is_non, and_true, true_and, e3g, decide_eq_true lt])
              rw [kI_t]
              simp only [List.cons_append, List.nil_append]
              rw [q_asg]
              (try simp only [List.cons_append, List.nil_append, w_var, t_var, w_int, w_str, w_bl, w_non, w_gl, w_bin, w_neg, t_cmp, w_cmp, t_chain, w_chain, t_isC, w_isC, w_isi, t_isi, t_bop1, t_bop, w_bop1, w_bop, t_nt, w_nt, w_ite, t_ite, w_nil, w_cons, a_tup, w_fz, w_mu, a_disp, a_comp, w_ofSeq, w_call, w_prim, w_ix, w_sl, w_rev, w_pop, w_popAt, w_app, e_nop, e_int, e_var, e_bin, i_seq, a_rng, rngA_int, a_rng2, rngB_int, a_zip, zipA_some, a_enum, enA_some, src_tsI, src_lsI, t_call, t_prim, tru_bl, opt_some, t_nop, List.getElem?_cons_zero, List.getElem?_cons_succ, setTg, setTgs, List.set_cons_zero, List.set_cons_succ, wp_ok, wipeE, len0, len1, len2, len3, len4, len5, len6, len7, len8, len9, len10, if_true, if_false, Bool.false_eq_true, eq_int, ne_int, gt_int, lt_int', le_int', ge_int', add_int, sub_int, abs_int, int_int, Option.map_some, src_lst, src_tup, ix_t0, ix_t1, ix_t2, ix_t3, ix_l0, ix_l1, ix_l2, is_non, and_true, true_and, h2 S'' m t tp ps.2 ps.1])
              rw [kA_eq]
              (try simp only [List.cons_append, List.nil_append, w_var, t_var, w_int, w_str, w_bl, w_non, w_gl, w_bin, w_neg, t_cmp, w_cmp, t_chain, w_chain, t_isC, w_isC, w_isi, t_isi, t_bop1, t_bop, w_bop1, w_bop, t_nt, w_nt, w_ite, t_ite, w_nil, w_cons, a_tup, w_fz, w_mu, a_disp, a_comp, w_ofSeq, w_call, w_prim, w_ix, w_sl, w_rev, w_pop, w_popAt, w_app, e_nop, e_int, e_var, e_bin, i_seq, a_rng, rngA_int, a_rng2, rngB_int, a_zip, zipA_some, a_enum, enA_some, src_tsI, src_lsI, t_call, t_prim, tru_bl, opt_some, t_nop, List.getElem?_cons_zero, List.getElem?_cons_succ, setTg, setTgs, List.set_cons_zero, List.set_cons_succ, wp_ok, wipeE, len0, len1, len2, len3, len4, len5, len6, len7, len8, len9, len10, if_true, if_false, Bool.false_eq_true, eq_int, ne_int, gt_int, lt_int', le_int', ge_int', add_int, sub_int, abs_int, int_int, Option.map_some, src_lst, src_tup, ix_t0, ix_t1, ix_t2, ix_t3, ix_l0, ix_l1, ix_l2, is_non, and_true, true_and])
              exact last (some (Qp.red m t)) (by rw [as1]; exact hP.high_step t m tp (.inl ⟨rfl, fun g' e => by rw [hh] at e; cases e; exact lt⟩)) _ fun _ _ h => h
            · rw [show (isCV none (Tv.tup [Tv.int g.1, Tv.int g.2])) = some false from rfl]
              (try simp only [List.cons_append, List.nil_append, w_var, t_var, w_int, w_str, w_bl, w_non, w_gl, w_bin, w_neg, t_cmp, w_cmp, t_chain, w_chain, t_isC, w_isC, w_isi, t_isi, t_bop1, t_bop, w_bop1, w_bop, t_nt, w_nt, w_ite, t_ite, w_nil, w_cons, a_tup, w_fz, w_mu, a_disp, a_comp, w_ofSeq, w_call, w_prim, w_ix, w_sl, w_rev, w_pop, w_popAt, w_app, e_nop, e_int, e_var, e_bin, i_seq, a_rng, rngA_int, a_rng2, rngB_int, a_zip, zipA_some, a_enum, enA_some, src_tsI, src_lsI, t_call, t_prim, tru_bl, opt_some, t_nop, List.getElem?_cons_zero, List.getElem?_cons_succ, setTg, setTgs, List.set_cons_zero, List.set_cons_succ, wp_ok, wipeE, len0, len1, len2, len3, len4, len5, len6, len7, len8, len9, len10, if_true, if_false, Bool.false_eq_true, eq_int, ne_int, gt_int, lt_int', le_int', ge_int', add_int, sub_int, abs_int, int_int, Option.map_some, src_lst, src_tup, ix_t0, ix_t1, ix_t2, ix_t3, ix_l0, ix_l1, ix_l2, is_non, and_true, true_and, e3g, decide_eq_false lt])
              rw [kI_f, List.nil_append]
              exact last (some g) (by rw [as1]; exact hP.high_step t m tp (.inr ⟨hh.symm, g, hh, Qp.not_lt.mp lt⟩)) _ fun _ _ h => h
        · simp only [decide_eq_false tp, Bool.false_eq_true, if_false]
          rw [kI_f, List.nil_append, q_if]
          have tn : t < 0 := by omega
          have z := hP.low_step t m tp
          have em : (0 : Int) - m = -m := by omega
          have et : (0 : Int) - t = -t := by omega
          simp only [pr, em, et] at e3'
          (try simp only [List.cons_append, List.nil_append, w_var, t_var, w_int, w_str, w_bl, w_non, w_gl, w_bin, w_neg, t_cmp, w_cmp, t_chain, w_chain, t_isC, w_isC, w_isi, t_isi, t_bop1, t_bop, w_bop1, w_bop, t_nt, w_nt, w_ite, t_ite, w_nil, w_cons, a_tup, w_fz, w_mu, a_disp, a_comp, w_ofSeq, w_call, w_prim, w_ix, w_sl, w_rev, w_pop, w_popAt, w_app, e_nop, e_int, e_var, e_bin, i_seq, a_rng, rngA_int, a_rng2, rngB_int, a_zip, zipA_some, a_enum, enA_some, src_tsI, src_lsI, t_call, t_prim, tru_bl, opt_some, t_nop, List.getElem?_cons_zero, List.getElem?_cons_succ, setTg, setTgs, List.set_cons_zero, List.set_cons_succ, wp_ok, wipeE, len0, len1, len2, len3, len4, len5, len6, len7, len8, len9, len10, if_true, if_false, Bool.false_eq_true, eq_int, ne_int, gt_int, lt_int', le_int', ge_int', add_int, sub_int, abs_int, int_int, Option.map_some, src_lst, src_tup, ix_t0, ix_t1, ix_t2, ix_t3, ix_l0, ix_l1, ix_l2, is_non, and_true, true_and, em, et, e3'])
          simp only [decide_eq_true tn, if_true]
          by_cases lt : Qp.lt low (-m, -t)
          · rw [if_pos ⟨tn, lt⟩] at z
            simp only [decide_eq_true lt]
            rw [kI_t]
            simp only [List.cons_append, List.nil_append]
            rw [q_asg]
            (try simp only [List.cons_append, List.nil_append, w_var, t_var, w_int, w_str, w_bl, w_non, w_gl, w_bin, w_neg, t_cmp, w_cmp, t_chain, w_chain, t_isC, w_isC, w_isi, t_isi, t_bop1, t_bop, w_bop1, w_bop, t_nt, w_nt, w_ite, t_ite, w_nil, w_cons, a_tup, w_fz, w_mu, a_disp, a_comp, w_ofSeq, w_call, w_prim, w_ix, w_sl, w_rev, w_pop, w_popAt, w_app, e_nop, e_int, e_var, e_bin, i_seq, a_rng, rngA_int, a_rng2, rngB_int, a_zip, zipA_some, a_enum, enA_some, src_tsI, src_lsI, t_call, t_prim, tru_bl, opt_some, t_nop, List.getElem?_cons_zero, List.getElem?_cons_succ, setTg, setTgs, List.set_cons_zero, List.set_cons_succ, wp_ok, wipeE, len0, len1, len2, len3, len4, len5, len6, len7, len8, len9, len10, if_true, if_false, Bool.false_eq_true, eq_int, ne_int, gt_int, lt_int', le_int', ge_int', add_int, sub_int, abs_int, int_int, Option.map_some, src_lst, src_tup, ix_t0, ix_t1, ix_t2, ix_t3, ix_l0, ix_l1, ix_l2, is_non, and_true, true_and, em, et, h2 S'' (-m) (-t) (by omega) (by omega) (by omega)])
            rw [kA_eq]
            (try simp only [List.cons_append, List.nil_append, w_var, t_var, w_int, w_str, w_bl, w_non, w_gl, w_bin, w_neg, t_cmp, w_cmp, t_chain, w_chain, t_isC, w_isC, w_isi, t_isi, t_bop1, t_bop, w_bop1, w_bop, t_nt, w_nt, w_ite, t_ite, w_nil, w_cons, a_tup, w_fz, w_mu, a_disp, a_comp, w_ofSeq, w_call, w_prim, w_ix, w_sl, w_rev, w_pop, w_popAt, w_app, e_nop, e_int, e_var, e_bin, i_seq, a_rng, rngA_int, a_rng2, rngB_int, a_zip, zipA_some, a_enum, enA_some, src_tsI, src_lsI, t_call, t_prim, tru_bl, opt_some, t_nop, List.getElem?_cons_zero, List.getElem?_cons_succ, setTg, setTgs, List.set_cons_zero, List.set_cons_succ, wp_ok, wipeE, len0, len1, len2, len3, len4, len5, len6, len7, len8, len9, len10, if_true, if_false, Bool.false_eq_true, eq_int, ne_int, gt_int, lt_int', le_int', ge_int', add_int, sub_int, abs_int, int_int, Option.map_some, src_lst, src_tup, ix_t0, ix_t1, ix_t2, ix_t3, ix_l0, ix_l1, ix_l2, is_non, and_true, true_and])
            rw [exs_nil]
            exact on (Qp.red (-m) (-t)) high (by rw [as1]; exact z) (fun z => t0 z.1)
          · rw [if_neg (fun w => lt w.2)] at z
            simp only [decide_eq_false lt]
            rw [kI_f, List.nil_append, exs_nil]
            exact on low high (by rw [as1]; exact z) (fun z => t0 z.1)
    · clear hP hnb
      rintro env S'' ⟨rfl, j6, j7, low, high, rfl, hP, hnb⟩
      show kR _ _ _ _ _ _
      rw [kR_eq, exs_nil]
      have e : allP base extra (dn ++ [s]) = allP base extra dn ++ prs base extra s := by
        unfold allP
        rw [List.map_append, List.flatten_append]
        simp
      exact ⟨rfl, _, j6, j7, low, high, rfl, by rw [e]; exact hP, by rw [e]; exact hnb⟩
  · rintro env S' ⟨rfl, j3, j6, j7, low, high, rfl, hP, hnb⟩
    have lsm := PR_small (B := 4800) (by decide) hP small
    show kR _ _ _ _ _ _
    rw [kR_eq, q_if]
    (try simp only [List.cons_append, List.nil_append, w_var, t_var, w_int, w_str, w_bl, w_non, w_gl, w_bin, w_neg, t_cmp, w_cmp, t_chain, w_chain, t_isC, w_isC, w_isi, t_isi, t_bop1, t_bop, w_bop1, w_bop, t_nt, w_nt, w_ite, t_ite, w_nil, w_cons, a_tup, w_fz, w_mu, a_disp, a_comp, w_ofSeq, w_call, w_prim, w_ix, w_sl, w_rev, w_pop, w_popAt, w_app, e_nop, e_int, e_var, e_bin, i_seq, a_rng, rngA_int, a_rng2, rngB_int, a_zip, zipA_some, a_enum, enA_some, src_tsI, src_lsI, t_call, t_prim, tru_bl, opt_some, t_nop, List.getElem?_cons_zero, List.getElem?_cons_succ, setTg, setTgs, List.set_cons_zero, List.set_cons_succ, wp_ok, wipeE, len0, len1, len2, len3, len4, len5, len6, len7, len8, len9, len10, if_true, if_false, Bool.false_eq_true, eq_int, ne_int, gt_int, lt_int', le_int', ge_int', add_int, sub_int, abs_int, int_int, Option.map_some, src_lst, src_tup, ix_t0, ix_t1, ix_t2, ix_t3, ix_l0, ix_l1, ix_l2, is_non, and_true, true_and])
    cases hh : high with
    | none =>
      simp only [hiT]
      (try simp only [List.cons_append, List.nil_append, w_var, t_var, w_int, w_str, w_bl, w_non, w_gl, w_bin, w_neg, t_cmp, w_cmp, t_chain, w_chain, t_isC, w_isC, w_isi, t_isi, t_bop1, t_bop, w_bop1, w_bop, t_nt, w_nt, w_ite, t_ite, w_nil, w_cons, a_tup, w_fz, w_mu, a_disp, a_comp, w_ofSeq, w_call, w_prim, w_ix, w_sl, w_rev, w_pop, w_popAt, w_app, e_nop, e_int, e_var, e_bin, i_seq, a_rng, rngA_int, a_rng2, rngB_int, a_zip, zipA_some, a_enum, enA_some, src_tsI, src_lsI, t_call, t_prim, tru_bl, opt_some, t_nop, List.getElem?_cons_zero, List.getElem?_cons_succ, setTg, setTgs, List.set_cons_zero, List.set_cons_succ, wp_ok, wipeE, len0, len1, len2, len3, len4, len5, len6, len7, len8, len9, len10, if_true, if_false, Bool.false_eq_true, eq_int, ne_int, gt_int, lt_int', le_int', ge_int', add_int, sub_int, abs_int, int_int, Option.map_some, src_lst, src_tup, ix_t0, ix_t1, ix_t2, ix_t3, ix_l0, ix_l1, ix_l2, is_non, and_true, true_and])
      simp only [if_true, Bool.not_true, Bool.false_eq_true, if_false]
      rw [kI_f, List.nil_append, q_ret]
      (try simp only [List.cons_append, List.nil_append, w_var, t_var, w_int, w_str, w_bl, w_non, w_gl, w_bin, w_neg, t_cmp, w_cmp, t_chain, w_chain, t_isC, w_isC, w_isi, t_isi, t_bop1, t_bop, w_bop1, w_bop, t_nt, w_nt, w_ite, t_ite, w_nil, w_cons, a_tup, w_fz, w_mu, a_disp, a_comp, w_ofSeq, w_call, w_prim, w_ix, w_sl, w_rev, w_pop, w_popAt, w_app, e_nop, e_int, e_var, e_bin, i_seq, a_rng, rngA_int, a_rng2, rngB_int, a_zip, zipA_some, a_enum, enA_some, src_tsI, src_lsI, t_call, t_prim, tru_bl, opt_some, t_nop, List.getElem?_cons_zero, List.getElem?_cons_succ, setTg, setTgs, List.set_cons_zero, List.set_cons_succ, wp_ok, wipeE, len0, len1, len2, len3, len4, len5, len6, len7, len8, len9, len10, if_true, if_false, Bool.false_eq_true, eq_int, ne_int, gt_int, lt_int', le_int', ge_int', add_int, sub_int, abs_int, int_int, Option.map_some, src_lst, src_tup, ix_t0, ix_t1, ix_t2, ix_t3, ix_l0, ix_l1, ix_l2, is_non, and_true, true_and])
      exact .inr ⟨hnb, low, none, by rw [← hh]; exact hP, .inr ⟨fun z => z, rfl⟩⟩
    | some g =>
      have e3g := h3 S' g low (lsm.2 g hh) lsm.1
      simp only [hiT]
      (try simp only [List.cons_append, List.nil_append, w_var, t_var, w_int, w_str, w_bl, w_non, w_gl, w_bin, w_neg, t_cmp, w_cmp, t_chain, w_chain, t_isC, w_isC, w_isi, t_isi, t_bop1, t_bop, w_bop1, w_bop, t_nt, w_nt, w_ite, t_ite, w_nil, w_cons, a_tup, w_fz, w_mu, a_disp, a_comp, w_ofSeq, w_call, w_prim, w_ix, w_sl, w_rev, w_pop, w_popAt, w_app, e_nop, e_int, e_var, e_bin, i_seq, a_rng, rngA_int, a_rng2, rngB_int, a_zip, zipA_some, a_enum, enA_some, src_tsI, src_lsI, t_call, t_prim, tru_bl, opt_some, t_nop, List.getElem?_cons_zero, List.getElem?_cons_succ, setTg, setTgs, List.set_cons_zero, List.set_cons_succ, wp_ok, wipeE, len0, len1, len2, len3, len4, len5, len6, len7, len8, len9, len10, if_true, if_false, Bool.false_eq_true, eq_int, ne_int, gt_int, lt_int', le_int', ge_int', add_int, sub_int, abs_int, int_int, Option.map_some, src_lst, src_tup, ix_t0, ix_t1, ix_t2, ix_t3, ix_l0, ix_l1, ix_l2, is_non, and_true, true_and, is_some' (S := S') (p := g), e3g])
      simp only [if_true, Bool.not_false]
      by_cases lt : Qp.lt g low
      · simp only [decide_eq_true lt]
        rw [kI_t]
        (try simp only [exs_nil, q_asg, kA_eq, kR_eq, q_drop, kD_eq, q_ret, q_if, kI_t, kI_f, q_set, kS_eq, q_pass, q_brk, q_cont, q_for, kF_eq, List.cons_append, List.nil_append, w_var, t_var, w_int, w_str, w_bl, w_non, w_gl, w_bin, w_neg, t_cmp, w_cmp, t_chain, w_chain, t_isC, w_isC, w_isi, t_isi, t_bop1, t_bop, w_bop1, w_bop, t_nt, w_nt, w_ite, t_ite, w_nil, w_cons, a_tup, w_fz, w_mu, a_disp, a_comp, w_ofSeq, w_call, w_prim, w_ix, w_sl, w_rev, w_pop, w_popAt, w_app, e_nop, e_int, e_var, e_bin, i_seq, a_rng, rngA_int, a_rng2, rngB_int, a_zip, zipA_some, a_enum, enA_some, src_tsI, src_lsI, t_call, t_prim, tru_bl, opt_some, t_nop, List.getElem?_cons_zero, List.getElem?_cons_succ, setTg, setTgs, List.set_cons_zero, List.set_cons_succ, wp_ok, wipeE, len0, len1, len2, len3, len4, len5, len6, len7, len8, len9, len10, if_true, if_false, Bool.false_eq_true, eq_int, ne_int, gt_int, lt_int', le_int', ge_int', add_int, sub_int, abs_int, int_int, Option.map_some, src_lst, src_tup, ix_t0, ix_t1, ix_t2, ix_t3, ix_l0, ix_l1, ix_l2, is_non, and_true, true_and])
        exact .inr ⟨hnb, low, some g, by rw [← hh]; exact hP, .inl ⟨lt, rfl⟩⟩
      · simp only [decide_eq_false lt]
        rw [kI_f, List.nil_append, q_ret]
        (try simp only [List.cons_append, List.nil_append, w_var, t_var, w_int, w_str, w_bl, w_non, w_gl, w_bin, w_neg, t_cmp, w_cmp, t_chain, w_chain, t_isC, w_isC, w_isi, t_isi, t_bop1, t_bop, w_bop1, w_bop, t_nt, w_nt, w_ite, t_ite, w_nil, w_cons, a_tup, w_fz, w_mu, a_disp, a_comp, w_ofSeq, w_call, w_prim, w_ix, w_sl, w_rev, w_pop, w_popAt, w_app, e_nop, e_int, e_var, e_bin, i_seq, a_rng, rngA_int, a_rng2, rngB_int, a_zip, zipA_some, a_enum, enA_some, src_tsI, src_lsI, t_call, t_prim, tru_bl, opt_some, t_nop, List.getElem?_cons_zero, List.getElem?_cons_succ, setTg, setTgs, List.set_cons_zero, List.set_cons_succ, wp_ok, wipeE, len0, len1, len2, len3, len4, len5, len6, len7, len8, len9, len10, if_true, if_false, Bool.false_eq_true, eq_int, ne_int, gt_int, lt_int', le_int', ge_int', add_int, sub_int, abs_int, int_int, Option.map_some, src_lst, src_tup, ix_t0, ix_t1, ix_t2, ix_t3, ix_l0, ix_l1, ix_l2, is_non, and_true, true_and])
        exact .inr ⟨hnb, low, some g, by rw [← hh]; exact hP, .inr ⟨lt, rfl⟩⟩
end Mp
namespace Mp
/-! ### two lists of one's own -/
section
variable {S : Sto} {a b c : Ob}
theorem two_at0 : (S ++ [a, b])[S.length]? = some a := by simp
theorem two_at1 : (S ++ [a, b])[S.length + 1]? = some b := by simp
theorem two_set0 : (S ++ [a, b]).set S.length c = S ++ [c, b] := by simp
theorem two_set1 : (S ++ [a, b]).set (S.length + 1) c = S ++ [a, c] := by
  have e : S ++ [a, b] = (S ++ [a]) ++ [b] := by simp
  have l : S.length + 1 = (S ++ [a]).length := by simp
  rw [e, l, end_set]
  simp
theorem two_take : (S ++ [a, b]).take S.length = S := by simp
end
def LRes (L : List (Int × Int)) (t : Tv) : Prop := (Qp.bad2 L ∧ t = .tup []) ∨ (¬ Qp.bad2 L ∧ ∃ low high, Qp.PR L low high ∧ ((Qp.cross low high ∧ t = .tup []) ∨ (¬ Qp.cross low high ∧ t = .tup [pr low, hiT high])))
/-- both ways tell the same -/
theorem ranges_same {L : List (Int × Int)} {t u : Tv} (h : PRes L t) (k : LRes L u) : (u = .tup [] ∧ t = .non) ∨ ∃ low high, Qp.PR L low high ∧ ¬ Qp.cross low high ∧ u = .tup [pr low, hiT high] ∧ t = .tup [pr low, hiT high] := by
  rcases h with ⟨b, rfl⟩ | ⟨nb, low, high, hP, h⟩
  · rcases k with ⟨_, rfl⟩ | ⟨nb, _⟩
    · exact .inl ⟨rfl, rfl⟩
    · obtain ⟨p, hp, hb⟩ := b
      exact absurd ⟨p, hp, .inl hb⟩ nb
  · rcases k with ⟨b2, rfl⟩ | ⟨nb2, low', high', hP', k⟩
    · rcases hP.bad_cross b2 with z | z
      · exact absurd z nb
      · rcases h with ⟨_, rfl⟩ | ⟨c, _⟩
        · exact .inl ⟨rfl, rfl⟩
        · exact absurd z c
    · obtain ⟨rfl, rfl⟩ := hP.unique hP'
      rcases h with ⟨c, rfl⟩ | ⟨c, rfl⟩
      · rcases k with ⟨_, rfl⟩ | ⟨c', _⟩
        · exact .inl ⟨rfl, rfl⟩
        · exact absurd c c'
      · rcases k with ⟨c', _⟩ | ⟨_, rfl⟩
        · exact absurd c' c
        · exact .inr ⟨low, high, hP, c, rfl, rfl⟩
/-- the lows and the highs of the pairs gone through -/
def lowsOf (L : List (Int × Int)) : List (Int × Int) := (0, 1) :: (L.filter fun p => decide (p.1 < 0) && decide (p.2 < 0)).map fun p => Qp.red (-p.2) (-p.1)
def highsOf (L : List (Int × Int)) : List (Int × Int) := (L.filter fun p => decide (0 < p.1)).map fun p => Qp.red p.2 p.1
theorem max_ex : ∀ {l : List (Int × Int)}, l ≠ [] → (∀ p ∈ l, 0 < p.2) → ∃ m ∈ l, ∀ p ∈ l, Qp.le p m
  | [], h, _ => absurd rfl h
  | [x], _, _ => ⟨x, by simp, fun p hp => by rw [List.mem_singleton.mp hp]; exact Qp.le_refl _⟩
  | x :: y :: l, _, h => by
    obtain ⟨m, hm, ha⟩ := max_ex (l := y :: l) (by simp) fun p hp => h p (List.mem_cons_of_mem _ hp)
    by_cases c : Qp.le x m
    · exact ⟨m, List.mem_cons_of_mem _ hm, fun p hp => by
        rcases List.mem_cons.mp hp with e | e
        · rw [e]; exact c
        · exact ha p e⟩
    · have c' : Qp.le m x := Qp.lt_le (Classical.byContradiction fun z => c (Qp.not_lt.mp z))
      exact ⟨x, List.mem_cons_self, fun p hp => by
        rcases List.mem_cons.mp hp with e | e
        · rw [e]; exact Qp.le_refl _
        · exact Qp.le_trans (h p hp) (h m (List.mem_cons_of_mem _ hm)) (h x List.mem_cons_self) (ha p e) c'⟩
theorem min_ex : ∀ {l : List (Int × Int)}, l ≠ [] → (∀ p ∈ l, 0 < p.2) → ∃ m ∈ l, ∀ p ∈ l, Qp.le m p
  | [], h, _ => absurd rfl h
  | [x], _, _ => ⟨x, by simp, fun p hp => by rw [List.mem_singleton.mp hp]; exact Qp.le_refl _⟩
  | x :: y :: l, _, h => by
    obtain ⟨m, hm, ha⟩ := min_ex (l := y :: l) (by simp) fun p hp => h p (List.mem_cons_of_mem _ hp)
    by_cases c : Qp.le m x
    · exact ⟨m, List.mem_cons_of_mem _ hm, fun p hp => by
        rcases List.mem_cons.mp hp with e | e
        · rw [e]; exact c
        · exact ha p e⟩
    · have c' : Qp.le x m := Qp.lt_le (Classical.byContradiction fun z => c (Qp.not_lt.mp z))
      exact ⟨x, List.mem_cons_self, fun p hp => by
        rcases List.mem_cons.mp hp with e | e
        · rw [e]; exact Qp.le_refl _
        · exact Qp.le_trans (h x List.mem_cons_self) (h m (List.mem_cons_of_mem _ hm)) (h p hp) c' (ha p e)⟩
theorem lows_pos {L : List (Int × Int)} : ∀ p ∈ lowsOf L, 0 < p.2 := by
  intro p hp
  rcases List.mem_cons.mp hp with e | e
  · rw [e]; decide
  · obtain ⟨q, hq, rfl⟩ := List.mem_map.mp e
    have := (List.mem_filter.mp hq).2
    simp only [Bool.and_eq_true, decide_eq_true_eq] at this
    exact Qp.red_pos (by omega)
theorem highs_pos {L : List (Int × Int)} : ∀ p ∈ highsOf L, 0 < p.2 := by
  intro p hp
  obtain ⟨q, hq, rfl⟩ := List.mem_map.mp hp
  exact Qp.red_pos (of_decide_eq_true (List.mem_filter.mp hq).2)
/-- those of a list that no other one exceeds -/
def tops (l : List (Int × Int)) : List (Int × Int) := l.filter fun p => (l.filter fun q => decide (Qp.lt p q)).isEmpty
def bots (l : List (Int × Int)) : List (Int × Int) := l.filter fun p => (l.filter fun q => decide (Qp.lt q p)).isEmpty
theorem tops_spec {l : List (Int × Int)} : ∀ p ∈ tops l, p ∈ l ∧ ∀ q ∈ l, Qp.le q p := by
  intro p hp
  obtain ⟨h1, h2⟩ := List.mem_filter.mp hp
  refine ⟨h1, fun q hq => Qp.not_lt.mp fun z => ?_⟩
  have : q ∈ l.filter fun q => decide (Qp.lt p q) := List.mem_filter.mpr ⟨hq, decide_eq_true z⟩
  rw [List.isEmpty_iff.mp h2] at this
  cases this
theorem bots_spec {l : List (Int × Int)} : ∀ p ∈ bots l, p ∈ l ∧ ∀ q ∈ l, Qp.le p q := by
  intro p hp
  obtain ⟨h1, h2⟩ := List.mem_filter.mp hp
  refine ⟨h1, fun q hq => Qp.not_lt.mp fun z => ?_⟩
  have : q ∈ l.filter fun q => decide (Qp.lt q p) := List.mem_filter.mpr ⟨hq, decide_eq_true z⟩
  rw [List.isEmpty_iff.mp h2] at this
  cases this
theorem tops_ne {l : List (Int × Int)} (h : l ≠ []) (hp : ∀ p ∈ l, 0 < p.2) : ∃ p r, tops l = p :: r := by
  obtain ⟨m, hm, ha⟩ := max_ex h hp
  have : m ∈ tops l := List.mem_filter.mpr ⟨hm, List.isEmpty_iff.mpr (List.filter_eq_nil_iff.mpr fun q hq z => Qp.not_lt.mpr (ha q hq) (of_decide_eq_true z))⟩
  cases e : tops l with
  | nil => rw [e] at this; cases this
  | cons p r => exact ⟨p, r, rfl⟩
theorem bots_ne {l : List (Int × Int)} (h : l ≠ []) (hp : ∀ p ∈ l, 0 < p.2) : ∃ p r, bots l = p :: r := by
  obtain ⟨m, hm, ha⟩ := min_ex h hp
  have : m ∈ bots l := List.mem_filter.mpr ⟨hm, List.isEmpty_iff.mpr (List.filter_eq_nil_iff.mpr fun q hq z => Qp.not_lt.mpr (ha q hq) (of_decide_eq_true z))⟩
  cases e : bots l with
  | nil => rw [e] at this; cases this
  | cons p r => exact ⟨p, r, rfl⟩
theorem law_PR {L : List (Int × Int)} (hb : ¬ Qp.bad2 L) {low : Int × Int} {high : Option (Int × Int)} (hl : low ∈ tops (lowsOf L)) (hh : (highsOf L = [] ∧ high = none) ∨ ∃ g, g ∈ bots (highsOf L) ∧ high = some g) : Qp.PR L low high := by
  obtain ⟨l1, l2⟩ := tops_spec low hl
  have lp := lows_pos low l1
  have hin : ∀ p ∈ L, 0 < p.1 → Qp.red p.2 p.1 ∈ highsOf L := fun p hp p1 => List.mem_map.mpr ⟨p, List.mem_filter.mpr ⟨hp, decide_eq_true p1⟩, rfl⟩
  refine ⟨?_, fun p hp p1 => ?_, fun e p hp p1 => ?_, fun g e => ?_, fun g e p hp p1 => ?_⟩
  · rcases List.mem_cons.mp l1 with e | e
    · exact .inl e
    · obtain ⟨q, hq, rfl⟩ := List.mem_map.mp e
      obtain ⟨q1, q2⟩ := List.mem_filter.mp hq
      simp only [Bool.and_eq_true, decide_eq_true_eq] at q2
      exact .inr ⟨q, q1, q2.1, q2.2, rfl⟩
  · by_cases p2 : p.2 < 0
    · have : Qp.red (-p.2) (-p.1) ∈ lowsOf L := List.mem_cons_of_mem _ (List.mem_map.mpr ⟨p, List.mem_filter.mpr ⟨hp, by simp [p1, p2]⟩, rfl⟩)
      exact Qp.le_trans (by simp only; omega) (Qp.red_pos (by omega)) lp (Qp.red_le _ _ (by omega)).2 (l2 _ this)
    · refine Qp.le_trans (b := (0, 1)) (by simp only; omega) (by decide) lp ?_ (l2 _ List.mem_cons_self)
      unfold Qp.le
      simp only
      omega
  · rcases hh with ⟨h1, _⟩ | ⟨g, _, h2⟩
    · have := hin p hp p1
      rw [h1] at this
      cases this
    · rw [h2] at e; cases e
  · rcases hh with ⟨_, h2⟩ | ⟨g', h1, h2⟩
    · rw [h2] at e; cases e
    · rw [h2] at e
      cases e
      obtain ⟨q, hq, rfl⟩ := List.mem_map.mp (bots_spec g h1).1
      obtain ⟨q1, q2⟩ := List.mem_filter.mp hq
      exact ⟨q, q1, of_decide_eq_true q2, rfl⟩
  · rcases hh with ⟨_, h2⟩ | ⟨g', h1, h2⟩
    · rw [h2] at e; cases e
    · rw [h2] at e
      cases e
      exact Qp.le_trans (highs_pos g (bots_spec g h1).1) (Qp.red_pos p1) p1 ((bots_spec g h1).2 _ (hin p hp p1)) (Qp.red_le _ _ p1).1
theorem lows_app {L : List (Int × Int)} {t m : Int} : lowsOf (L ++ [(t, m)]) = if t < 0 ∧ m < 0 then lowsOf L ++ [Qp.red (-m) (-t)] else lowsOf L := by
  unfold lowsOf
  rw [List.filter_append, List.map_append]
  by_cases h1 : t < 0 <;> by_cases h2 : m < 0 <;> simp [h1, h2]
theorem highs_app {L : List (Int × Int)} {t m : Int} : highsOf (L ++ [(t, m)]) = if 0 < t then highsOf L ++ [Qp.red m t] else highsOf L := by
  unfold highsOf
  rw [List.filter_append, List.map_append]
  by_cases h1 : 0 < t <;> simp [h1]
theorem bad2_app {A : List (Int × Int)} {p : Int × Int} : Qp.bad2 (A ++ [p]) ↔ Qp.bad2 A ∨ ((p.1 = 0 ∧ p.2 < 0) ∨ (0 < p.1 ∧ p.2 < 0)) := by
  unfold Qp.bad2
  constructor
  · rintro ⟨q, hq, h⟩
    rcases List.mem_append.mp hq with e | e
    · exact .inl ⟨q, e, h⟩
    · rw [List.mem_singleton.mp e] at h
      exact .inr h
  · rintro (⟨q, hq, h⟩ | h)
    · exact ⟨q, by simp [hq], h⟩
    · exact ⟨p, by simp, h⟩
theorem lows_small {L : List (Int × Int)} {B : Nat} (hB : 1 ≤ B) (hs : ∀ p ∈ L, p.1.natAbs ≤ B ∧ p.2.natAbs ≤ B) : ∀ p ∈ lowsOf L, p.1.natAbs ≤ B ∧ p.2.natAbs ≤ B := by
  intro p hp
  rcases List.mem_cons.mp hp with e | e
  · rw [e]
    exact ⟨by simp, by simpa using hB⟩
  · obtain ⟨q, hq, rfl⟩ := List.mem_map.mp e
    obtain ⟨q1, q2⟩ := List.mem_filter.mp hq
    simp only [Bool.and_eq_true, decide_eq_true_eq] at q2
    have r := red_small (a := -q.2) (b := -q.1) (by omega)
    have := hs q q1
    omega
theorem highs_small {L : List (Int × Int)} {B : Nat} (hs : ∀ p ∈ L, p.1.natAbs ≤ B ∧ p.2.natAbs ≤ B) : ∀ p ∈ highsOf L, p.1.natAbs ≤ B ∧ p.2.natAbs ≤ B := by
  intro p hp
  obtain ⟨q, hq, rfl⟩ := List.mem_map.mp hp
  obtain ⟨q1, q2⟩ := List.mem_filter.mp hq
  have r := red_small (a := q.2) (b := q.1) (of_decide_eq_true q2)
  have := hs q q1
  omega
theorem mul_small {a b : Int} (ha : a.natAbs ≤ 4800) (hb : b.natAbs ≤ 4800) {S : Sto} : binV .mul S (.int a) (.int b) = some (.int (a * b)) := mul_bd (k := 13) (l := 13) (Bd.of ha (by decide)) (Bd.of hb (by decide)) (by decide)
theorem ne_prs {S : Sto} {l : List (Int × Int)} : cmpV .ne S (.lst (l.map pr)) (.lst []) = some (!l.isEmpty) := by
  have dk : ∀ l : List (Int × Int), Tv.dOks 15 (l.map pr) = true := fun l => by
    induction l with
    | nil => rfl
    | cons r R ih => rw [List.map_cons, Tv.dOks, ih]; rfl
  cases l with
  | nil => simp [cmpV, eqS, eqS0, thaw, Tv.dOk, Tv.dOks, Tv.eqb, Tv.eqbs]
  | cons r R =>
    have d := dk (r :: R)
    have e : cmpV .ne S (.lst ((r :: R).map pr)) (.lst []) = (if Tv.dOk 16 (.lst ((r :: R).map pr)) = true ∧ Tv.dOk 16 (.lst []) = true then some (Tv.eqb (.lst ((r :: R).map pr)) (.lst [])) else none).map (!·) := rfl
    rw [e, if_pos ⟨by rw [Tv.dOk]; exact d, rfl⟩]
    rfl
theorem ix_pr0 {S : Sto} {p : Int × Int} : ixV S (pr p) (.int 0) = some (.int p.1) := ix_t0
theorem ix_pr1 {S : Sto} {p : Int × Int} : ixV S (pr p) (.int 1) = some (.int p.2) := ix_t1
theorem srcl {S : Sto} {n : Nat} {l : List (Int × Int)} (h : S[n]? = some (.lst (l.map pr))) : srcOf S (.cell n) = some (l.map pr, [(n, l.map pr)]) := src_cell h
theorem lawDueRange_ok {cf : Nat → List Tv → M Tv}
    (h30 : ∀ (S : Sto) (a b : List Int), (∀ x ∈ a, Bd 5 x) → (∀ x ∈ b, Bd 6 x) → a.length ≤ 1000 → cf 30 [tsI a, tsI b] S = .ok (.int (Qr.dot a b)) S)
    (h11 : ∀ (S : Sto) (a b : Int), 0 < b → a.natAbs ≤ 4800 → b.natAbs ≤ 4800 → cf 11 [pr (a, b)] S = .ok (pr (Qp.red a b)) S)
    {S : Sto} {n : Nat} {base extra : List Int} {ss : List Sg} (hb : WsOk n base) (he : WsOk n extra) (hn : n ≤ 4) (hs : ∀ s ∈ ss, SgOk n s) (hl : ss.length ≤ 100) :
    ∃ t, runD cf xLawDueRange [tsI base, tsI extra, .tup (ss.map sgT)] S = .ok t S ∧ LRes (allP base extra ss) t := by
  refine run_own rfl ?_
  show (exs cf Fu xLawDueRange.body [some (tsI base), some (tsI extra), some (.tup (ss.map sgT)), none, none, none, none, none, none, none, none, none, none, none] S).wp _
  unfold xLawDueRange
  have small := all_small hb he hn hs
  have many : (allP base extra ss).length ≤ 1200 := by
    unfold allP
    have go : ∀ l : List Sg, (∀ s ∈ l, SgOk n s) → ((l.map (prs base extra)).flatten).length ≤ 12 * l.length := by
      intro l
      induction l with
      | nil => intro _; simp
      | cons s l ih =>
        intro h
        have h1 := ih fun u hu => h u (List.mem_cons_of_mem _ hu)
        have h2 := (h s List.mem_cons_self).len
        rw [List.map_cons, List.flatten_cons, List.length_append, List.length_cons]
        have : (prs base extra s).length = s.1.length := by unfold prs; rw [List.length_map]
        omega
    have := go ss hs
    omega
  have e1 : (S ++ [Ob.lst [pr (0, 1)]]).length = S.length + 1 := by simp
  have e2 : S ++ [Ob.lst [pr (0, 1)]] ++ [Ob.lst []] = S ++ [Ob.lst ((lowsOf []).map pr), Ob.lst ((highsOf []).map pr)] := by simp [lowsOf, highsOf]
  rw [q_asg]
  (try simp only [List.cons_append, List.nil_append, w_var, t_var, w_int, w_str, w_bl, w_non, w_gl, w_bin, w_neg, t_cmp, w_cmp, t_chain, w_chain, t_isC, w_isC, w_isi, t_isi, t_bop1, t_bop, w_bop1, w_bop, t_nt, w_nt, w_ite, t_ite, w_nil, w_cons, a_tup, w_fz, w_mu, a_disp, a_comp, w_ofSeq, w_call, w_prim, w_ix, w_sl, w_rev, w_pop, w_popAt, w_app, e_nop, e_int, e_var, e_bin, i_seq, a_rng, rngA_int, a_rng2, rngB_int, a_zip, zipA_some, a_enum, enA_some, src_tsI, src_lsI, t_call, t_prim, tru_bl, opt_some, t_nop, List.getElem?_cons_zero, List.getElem?_cons_succ, setTg, setTgs, List.set_cons_zero, List.set_cons_succ, wp_ok, wipeE, len0, len1, len2, len3, len4, len5, len6, len7, len8, len9, len10, if_true, if_false, Bool.false_eq_true, eq_int, ne_int, gt_int, lt_int', le_int', ge_int', add_int, sub_int, abs_int, int_int, Option.map_some, src_lst, src_tup, ix_t0, ix_t1, ix_t2, ix_t3, ix_l0, ix_l1, ix_l2, is_non, and_true, true_and])
  rw [show Tv.tup [Tv.int 0, Tv.int 1] = pr (0, 1) from rfl, e1, e2, kA_eq]
  (try simp only [List.cons_append, List.nil_append, w_var, t_var, w_int, w_str, w_bl, w_non, w_gl, w_bin, w_neg, t_cmp, w_cmp, t_chain, w_chain, t_isC, w_isC, w_isi, t_isi, t_bop1, t_bop, w_bop1, w_bop, t_nt, w_nt, w_ite, t_ite, w_nil, w_cons, a_tup, w_fz, w_mu, a_disp, a_comp, w_ofSeq, w_call, w_prim, w_ix, w_sl, w_rev, w_pop, w_popAt, w_app, e_nop, e_int, e_var, e_bin, i_seq, a_rng, rngA_int, a_rng2, rngB_int, a_zip, zipA_some, a_enum, enA_some, src_tsI, src_lsI, t_call, t_prim, tru_bl, opt_some, t_nop, List.getElem?_cons_zero, List.getElem?_cons_succ, setTg, setTgs, List.set_cons_zero, List.set_cons_succ, wp_ok, wipeE, len0, len1, len2, len3, len4, len5, len6, len7, len8, len9, len10, if_true, if_false, Bool.false_eq_true, eq_int, ne_int, gt_int, lt_int', le_int', ge_int', add_int, sub_int, abs_int, int_int, Option.map_some, src_lst, src_tup, ix_t0, ix_t1, ix_t2, ix_t3, ix_l0, ix_l1, ix_l2, is_non, and_true, true_and])
  rw [q_for]
  (try simp only [List.cons_append, List.nil_append, w_var, t_var, w_int, w_str, w_bl, w_non, w_gl, w_bin, w_neg, t_cmp, w_cmp, t_chain, w_chain, t_isC, w_isC, w_isi, t_isi, t_bop1, t_bop, w_bop1, w_bop, t_nt, w_nt, w_ite, t_ite, w_nil, w_cons, a_tup, w_fz, w_mu, a_disp, a_comp, w_ofSeq, w_call, w_prim, w_ix, w_sl, w_rev, w_pop, w_popAt, w_app, e_nop, e_int, e_var, e_bin, i_seq, a_rng, rngA_int, a_rng2, rngB_int, a_zip, zipA_some, a_enum, enA_some, src_tsI, src_lsI, t_call, t_prim, tru_bl, opt_some, t_nop, List.getElem?_cons_zero, List.getElem?_cons_succ, setTg, setTgs, List.set_cons_zero, List.set_cons_succ, wp_ok, wipeE, len0, len1, len2, len3, len4, len5, len6, len7, len8, len9, len10, if_true, if_false, Bool.false_eq_true, eq_int, ne_int, gt_int, lt_int', le_int', ge_int', add_int, sub_int, abs_int, int_int, Option.map_some, src_lst, src_tup, ix_t0, ix_t1, ix_t2, ix_t3, ix_l0, ix_l1, ix_l2, is_non, and_true, true_and])
  rw [kF_eq]
  refine for_on (fun dn r env S' => S' = S ++ [.lst ((lowsOf (allP base extra dn)).map pr), .lst ((highsOf (allP base extra dn)).map pr)] ∧ ∃ j7 j8 j9 j10 j11 j12 j13 : Option Tv, env = [some (tsI base), some (tsI extra), some (.tup (ss.map sgT)), none, none, some (.cell S.length), some (.cell (S.length + 1)), j7, j8, j9, j10, j11, j12, j13] ∧ ¬ Qp.bad2 (allP base extra dn)) (fun _ _ _ _ _ => rfl) ?_ ?_ ⟨rfl, _, _, _, _, _, _, _, rfl, fun ⟨p, hp, _⟩ => (List.not_mem_nil hp).elim⟩
  · rintro dn s r env S' hx ⟨rfl, j7, j8, j9, j10, j11, j12, j13, rfl, hnb⟩
    have sm : s ∈ ss := by rw [hx]; simp
    have so := hs s sm
    obtain ⟨om, oe⟩ := own_mem so
    have sub : ∀ p ∈ prs base extra s, p ∈ allP base extra ss := fun p hp => List.mem_flatten.mpr ⟨_, List.mem_map.mpr ⟨s, sm, rfl⟩, hp⟩
    have eall : allP base extra ss = allP base extra dn ++ (prs base extra s ++ allP base extra r) := by
      unfold allP
      rw [hx, List.map_append, List.flatten_append, List.map_cons, List.flatten_cons]
    have i1 : ∀ S, ixV S (.tup (s.1.map tsI)) (.int (s.2 : Int)) = some (tsI (own s)) := fun S => by
      show L2.atI (s.1.map tsI) (s.2 : Int) = _
      exact L2.atI_nat (by rw [List.getElem?_map, oe]; rfl)
    simp only [sgT, setTg, setTgs, List.set_cons_zero, List.set_cons_succ]
    rw [q_for]
    (try simp only [List.cons_append, List.nil_append, w_var, t_var, w_int, w_str, w_bl, w_non, w_gl, w_bin, w_neg, t_cmp, w_cmp, t_chain, w_chain, t_isC, w_isC, w_isi, t_isi, t_bop1, t_bop, w_bop1, w_bop, t_nt, w_nt, w_ite, t_ite, w_nil, w_cons, a_tup, w_fz, w_mu, a_disp, a_comp, w_ofSeq, w_call, w_prim, w_ix, w_sl, w_rev, w_pop, w_popAt, w_app, e_nop, e_int, e_var, e_bin, i_seq, a_rng, rngA_int, a_rng2, rngB_int, a_zip, zipA_some, a_enum, enA_some, src_tsI, src_lsI, t_call, t_prim, tru_bl, opt_some, t_nop, List.getElem?_cons_zero, List.getElem?_cons_succ, setTg, setTgs, List.set_cons_zero, List.set_cons_succ, wp_ok, wipeE, len0, len1, len2, len3, len4, len5, len6, len7, len8, len9, len10, if_true, if_false, Bool.false_eq_true, eq_int, ne_int, gt_int, lt_int', le_int', ge_int', add_int, sub_int, abs_int, int_int, Option.map_some, src_lst, src_tup, ix_t0, ix_t1, ix_t2, ix_t3, ix_l0, ix_l1, ix_l2, is_non, and_true, true_and])
    rw [kF_eq]
    refine for_on (fun dn2 r2 env S' => S' = S ++ [.lst ((lowsOf (allP base extra dn ++ dn2.map (prOf base extra s))).map pr), .lst ((highsOf (allP base extra dn ++ dn2.map (prOf base extra s))).map pr)] ∧ ∃ j9 j10 j11 j12 j13 : Option Tv, env = [some (tsI base), some (tsI extra), some (.tup (ss.map sgT)), none, none, some (.cell S.length), some (.cell (S.length + 1)), some (.tup (s.1.map tsI)), some (.int (s.2 : Int)), j9, j10, j11, j12, j13] ∧ ¬ Qp.bad2 (allP base extra dn ++ dn2.map (prOf base extra s))) (fun _ _ _ _ _ => rfl) ?_ ?_ ⟨by simp, _, _, _, _, _, rfl, by simpa using hnb⟩
    · rintro dn2 w r2 env S' hx2 ⟨rfl, j9, j10, j11, j12, j13, rfl, hnb2⟩
      have wm : w ∈ s.1 := by rw [hx2]; simp
      have ps := small _ (sub _ (List.mem_map.mpr ⟨w, wm, rfl⟩))
      generalize hL : allP base extra dn ++ dn2.map (prOf base extra s) = L at *
      have hlen : L.length ≤ 1200 := by
        have e : (allP base extra ss).length = L.length + ((r2.map (prOf base extra s)).length + 1) + (allP base extra r).length := by
          rw [eall]
          have : prs base extra s = dn2.map (prOf base extra s) ++ (prOf base extra s w :: r2.map (prOf base extra s)) := by unfold prs; rw [hx2, List.map_append, List.map_cons]
          rw [this, ← hL]
          simp only [List.length_append, List.length_cons]
          omega
        omega
      have lowl : (lowsOf L).length ≤ 1201 := by
        unfold lowsOf
        rw [List.length_cons, List.length_map]
        have := List.length_filter_le (fun p : Int × Int => decide (p.1 < 0) && decide (p.2 < 0)) L
        omega
      have highl : (highsOf L).length ≤ 1200 := by
        unfold highsOf
        rw [List.length_map]
        have := List.length_filter_le (fun p : Int × Int => decide (0 < p.1)) L
        omega
      have nxt : allP base extra dn ++ (dn2 ++ [w]).map (prOf base extra s) = L ++ [prOf base extra s w] := by rw [← hL, List.map_append]; simp
      simp only [nxt]
      have p1 : (prOf base extra s w).1 = Qr.dot extra (own s) - Qr.dot extra w := rfl
      have p2 : (prOf base extra s w).2 = Qr.dot base w - Qr.dot base (own s) := rfl
      generalize hp : prOf base extra s w = p at *
      obtain ⟨t, m⟩ := p
      simp only at p1 p2 ps
      have d1 : ∀ S, cf 30 [tsI extra, tsI (own s)] S = .ok (.int (Qr.dot extra (own s))) S := fun S => h30 S extra (own s) (ws_bd he) (way_bd so om) (by rw [he.len]; omega)
      have d2 : ∀ S, cf 30 [tsI extra, tsI w] S = .ok (.int (Qr.dot extra w)) S := fun S => h30 S extra w (ws_bd he) (way_bd so wm) (by rw [he.len]; omega)
      have d3 : ∀ S, cf 30 [tsI base, tsI (own s)] S = .ok (.int (Qr.dot base (own s))) S := fun S => h30 S base (own s) (ws_bd hb) (way_bd so om) (by rw [hb.len]; omega)
      have d4 : ∀ S, cf 30 [tsI base, tsI w] S = .ok (.int (Qr.dot base w)) S := fun S => h30 S base w (ws_bd hb) (way_bd so wm) (by rw [hb.len]; omega)
      simp only [setTg, setTgs, List.set_cons_zero, List.set_cons_succ]
      rw [q_asg]
      (try simp only [List.cons_append, List.nil_append, w_var, t_var, w_int, w_str, w_bl, w_non, w_gl, w_bin, w_neg, t_cmp, w_cmp, t_chain, w_chain, t_isC, w_isC, w_isi, t_isi, t_bop1, t_bop, w_bop1, w_bop, t_nt, w_nt, w_ite, t_ite, w_nil, w_cons, a_tup, w_fz, w_mu, a_disp, a_comp, w_ofSeq, w_call, w_prim, w_ix, w_sl, w_rev, w_pop, w_popAt, w_app, e_nop, e_int, e_var, e_bin, i_seq, a_rng, rngA_int, a_rng2, rngB_int, a_zip, zipA_some, a_enum, enA_some, src_tsI, src_lsI, t_call, t_prim, tru_bl, opt_some, t_nop, List.getElem?_cons_zero, List.getElem?_cons_succ, setTg, setTgs, List.set_cons_zero, List.set_cons_succ, wp_ok, wipeE, len0, len1, len2, len3, len4, len5, len6, len7, len8, len9, len10, if_true, if_false, Bool.false_eq_true, eq_int, ne_int, gt_int, lt_int', le_int', ge_int', add_int, sub_int, abs_int, int_int, Option.map_some, src_lst, src_tup, ix_t0, ix_t1, ix_t2, ix_t3, ix_l0, ix_l1, ix_l2, is_non, and_true, true_and, i1, d1, d2])
      rw [kA_eq]
      (try simp only [List.cons_append, List.nil_append, w_var, t_var, w_int, w_str, w_bl, w_non, w_gl, w_bin, w_neg, t_cmp, w_cmp, t_chain, w_chain, t_isC, w_isC, w_isi, t_isi, t_bop1, t_bop, w_bop1, w_bop, t_nt, w_nt, w_ite, t_ite, w_nil, w_cons, a_tup, w_fz, w_mu, a_disp, a_comp, w_ofSeq, w_call, w_prim, w_ix, w_sl, w_rev, w_pop, w_popAt, w_app, e_nop, e_int, e_var, e_bin, i_seq, a_rng, rngA_int, a_rng2, rngB_int, a_zip, zipA_some, a_enum, enA_some, src_tsI, src_lsI, t_call, t_prim, tru_bl, opt_some, t_nop, List.getElem?_cons_zero, List.getElem?_cons_succ, setTg, setTgs, List.set_cons_zero, List.set_cons_succ, wp_ok, wipeE, len0, len1, len2, len3, len4, len5, len6, len7, len8, len9, len10, if_true, if_false, Bool.false_eq_true, eq_int, ne_int, gt_int, lt_int', le_int', ge_int', add_int, sub_int, abs_int, int_int, Option.map_some, src_lst, src_tup, ix_t0, ix_t1, ix_t2, ix_t3, ix_l0, ix_l1, ix_l2, is_non, and_true, true_and])
      rw [q_asg]
      (try simp only [List.cons_append, List.nil_append, w_var, t_var, w_int, w_str, w_bl, w_non, w_gl, w_bin, w_neg, t_cmp, w_cmp, t_chain, w_chain, t_isC, w_isC, w_isi, t_isi, t_bop1, t_bop, w_bop1, w_bop, t_nt, w_nt, w_ite, t_ite, w_nil, w_cons, a_tup, w_fz, w_mu, a_disp, a_comp, w_ofSeq, w_call, w_prim, w_ix, w_sl, w_rev, w_pop, w_popAt, w_app, e_nop, e_int, e_var, e_bin, i_seq, a_rng, rngA_int, a_rng2, rngB_int, a_zip, zipA_some, a_enum, enA_some, src_tsI, src_lsI, t_call, t_prim, tru_bl, opt_some, t_nop, List.getElem?_cons_zero, List.getElem?_cons_succ, setTg, setTgs, List.set_cons_zero, List.set_cons_succ, wp_ok, wipeE, len0, len1, len2, len3, len4, len5, len6, len7, len8, len9, len10, if_true, if_false, Bool.false_eq_true, eq_int, ne_int, gt_int, lt_int', le_int', ge_int', add_int, sub_int, abs_int, int_int, Option.map_some, src_lst, src_tup, ix_t0, ix_t1, ix_t2, ix_t3, ix_l0, ix_l1, ix_l2, is_non, and_true, true_and, i1, d3, d4])
      rw [kA_eq, ← p1, ← p2]
      (try simp only [List.cons_append, List.nil_append, w_var, t_var, w_int, w_str, w_bl, w_non, w_gl, w_bin, w_neg, t_cmp, w_cmp, t_chain, w_chain, t_isC, w_isC, w_isi, t_isi, t_bop1, t_bop, w_bop1, w_bop, t_nt, w_nt, w_ite, t_ite, w_nil, w_cons, a_tup, w_fz, w_mu, a_disp, a_comp, w_ofSeq, w_call, w_prim, w_ix, w_sl, w_rev, w_pop, w_popAt, w_app, e_nop, e_int, e_var, e_bin, i_seq, a_rng, rngA_int, a_rng2, rngB_int, a_zip, zipA_some, a_enum, enA_some, src_tsI, src_lsI, t_call, t_prim, tru_bl, opt_some, t_nop, List.getElem?_cons_zero, List.getElem?_cons_succ, setTg, setTgs, List.set_cons_zero, List.set_cons_succ, wp_ok, wipeE, len0, len1, len2, len3, len4, len5, len6, len7, len8, len9, len10, if_true, if_false, Bool.false_eq_true, eq_int, ne_int, gt_int, lt_int', le_int', ge_int', add_int, sub_int, abs_int, int_int, Option.map_some, src_lst, src_tup, ix_t0, ix_t1, ix_t2, ix_t3, ix_l0, ix_l1, ix_l2, is_non, and_true, true_and])
      rw [q_if]
      (try simp only [List.cons_append, List.nil_append, w_var, t_var, w_int, w_str, w_bl, w_non, w_gl, w_bin, w_neg, t_cmp, w_cmp, t_chain, w_chain, t_isC, w_isC, w_isi, t_isi, t_bop1, t_bop, w_bop1, w_bop, t_nt, w_nt, w_ite, t_ite, w_nil, w_cons, a_tup, w_fz, w_mu, a_disp, a_comp, w_ofSeq, w_call, w_prim, w_ix, w_sl, w_rev, w_pop, w_popAt, w_app, e_nop, e_int, e_var, e_bin, i_seq, a_rng, rngA_int, a_rng2, rngB_int, a_zip, zipA_some, a_enum, enA_some, src_tsI, src_lsI, t_call, t_prim, tru_bl, opt_some, t_nop, List.getElem?_cons_zero, List.getElem?_cons_succ, setTg, setTgs, List.set_cons_zero, List.set_cons_succ, wp_ok, wipeE, len0, len1, len2, len3, len4, len5, len6, len7, len8, len9, len10, if_true, if_false, Bool.false_eq_true, eq_int, ne_int, gt_int, lt_int', le_int', ge_int', add_int, sub_int, abs_int, int_int, Option.map_some, src_lst, src_tup, ix_t0, ix_t1, ix_t2, ix_t3, ix_l0, ix_l1, ix_l2, is_non, and_true, true_and])
      have fin : ∀ (k12 k13 : Option Tv) (S' : Sto), S' = S ++ [.lst ((lowsOf (L ++ [(t, m)])).map pr), .lst ((highsOf (L ++ [(t, m)])).map pr)] → ¬ ((t = 0 ∧ m < 0) ∨ (0 < t ∧ m < 0)) → (S' = S ++ [.lst ((lowsOf (L ++ [(t, m)])).map pr), .lst ((highsOf (L ++ [(t, m)])).map pr)] ∧ ∃ j9 j10 j11 j12 j13 : Option Tv, [some (tsI base), some (tsI extra), some (Tv.tup (ss.map sgT)), none, none, some (.cell S.length), some (.cell (S.length + 1)), some (Tv.tup (s.1.map tsI)), some (.int (s.2 : Int)), some (tsI w), some (.int t), some (.int m), k12, k13] = [some (tsI base), some (tsI extra), some (Tv.tup (ss.map sgT)), none, none, some (.cell S.length), some (.cell (S.length + 1)), some (Tv.tup (s.1.map tsI)), some (.int (s.2 : Int)), j9, j10, j11, j12, j13] ∧ ¬ Qp.bad2 (L ++ [(t, m)])) := fun k12 k13 S' e nb =>
        ⟨e, _, _, _, _, _, rfl, by rw [bad2_app]; exact fun z => z.elim hnb2 nb⟩
      by_cases m0 : m < 0
      · by_cases t0 : t = 0
        · simp only [show (t == 0) = true by simp [t0], decide_eq_true m0, if_true]
          simp only [show ((true : Bool) = false) = False by simp, if_false]
          rw [kI_t]
          (try simp only [exs_nil, q_asg, kA_eq, kR_eq, q_drop, kD_eq, q_ret, q_if, kI_t, kI_f, q_set, kS_eq, q_pass, q_brk, q_cont, q_for, kF_eq, List.cons_append, List.nil_append, w_var, t_var, w_int, w_str, w_bl, w_non, w_gl, w_bin, w_neg, t_cmp, w_cmp, t_chain, w_chain, t_isC, w_isC, w_isi, t_isi, t_bop1, t_bop, w_bop1, w_bop, t_nt, w_nt, w_ite, t_ite, w_nil, w_cons, a_tup, w_fz, w_mu, a_disp, a_comp, w_ofSeq, w_call, w_prim, w_ix, w_sl, w_rev, w_pop, w_popAt, w_app, e_nop, e_int, e_var, e_bin, i_seq, a_rng, rngA_int, a_rng2, rngB_int, a_zip, zipA_some, a_enum, enA_some, src_tsI, src_lsI, t_call, t_prim, tru_bl, opt_some, t_nop, List.getElem?_cons_zero, List.getElem?_cons_succ, setTg, setTgs, List.set_cons_zero, List.set_cons_succ, wp_ok, wipeE, len0, len1, len2, len3, len4, len5, len6, len7, len8, len9, len10, if_true, if_false, Bool.false_eq_true, eq_int, ne_int, gt_int, lt_int', le_int', ge_int', add_int, sub_int, abs_int, int_int, Option.map_some, src_lst, src_tup, ix_t0, ix_t1, ix_t2, ix_t3, ix_l0, ix_l1, ix_l2, is_non, and_true, true_and])
          exact ⟨two_take, rfl, .inl ⟨⟨(t, m), sub _ (List.mem_map.mpr ⟨w, wm, hp⟩), .inl ⟨t0, m0⟩⟩, rfl⟩⟩
        · by_cases tp : 0 < t
          · simp only [show (t == 0) = false by simp [t0], decide_eq_true m0, decide_eq_true tp, if_true, Bool.false_eq_true, if_false]
            simp only [show ((true : Bool) = false) = False by simp, if_false]
            rw [kI_t]
            (try simp only [exs_nil, q_asg, kA_eq, kR_eq, q_drop, kD_eq, q_ret, q_if, kI_t, kI_f, q_set, kS_eq, q_pass, q_brk, q_cont, q_for, kF_eq, List.cons_append, List.nil_append, w_var, t_var, w_int, w_str, w_bl, w_non, w_gl, w_bin, w_neg, t_cmp, w_cmp, t_chain, w_chain, t_isC, w_isC, w_isi, t_isi, t_bop1, t_bop, w_bop1, w_bop, t_nt, w_nt, w_ite, t_ite, w_nil, w_cons, a_tup, w_fz, w_mu, a_disp, a_comp, w_ofSeq, w_call, w_prim, w_ix, w_sl, w_rev, w_pop, w_popAt, w_app, e_nop, e_int, e_var, e_bin, i_seq, a_rng, rngA_int, a_rng2, rngB_int, a_zip, zipA_some, a_enum, enA_some, src_tsI, src_lsI, t_call, t_prim, tru_bl, opt_some, t_nop, List.getElem?_cons_zero, List.getElem?_cons_succ, setTg, setTgs, List.set_cons_zero, List.set_cons_succ, wp_ok, wipeE, len0, len1, len2, len3, len4, len5, len6, len7, len8, len9, len10, if_true, if_false, Bool.false_eq_true, eq_int, ne_int, gt_int, lt_int', le_int', ge_int', add_int, sub_int, abs_int, int_int, Option.map_some, src_lst, src_tup, ix_t0, ix_t1, ix_t2, ix_t3, ix_l0, ix_l1, ix_l2, is_non, and_true, true_and])
            exact ⟨two_take, rfl, .inl ⟨⟨(t, m), sub _ (List.mem_map.mpr ⟨w, wm, hp⟩), .inr ⟨tp, m0⟩⟩, rfl⟩⟩
          · have tn : t < 0 := by omega
            simp only [show (t == 0) = false by simp [t0], decide_eq_true m0, decide_eq_false tp, if_true, Bool.false_eq_true, if_false]
            rw [kI_f, List.nil_append, q_if]
            (try simp only [List.cons_append, List.nil_append, w_var, t_var, w_int, w_str, w_bl, w_non, w_gl, w_bin, w_neg, t_cmp, w_cmp, t_chain, w_chain, t_isC, w_isC, w_isi, t_isi, t_bop1, t_bop, w_bop1, w_bop, t_nt, w_nt, w_ite, t_ite, w_nil, w_cons, a_tup, w_fz, w_mu, a_disp, a_comp, w_ofSeq, w_call, w_prim, w_ix, w_sl, w_rev, w_pop, w_popAt, w_app, e_nop, e_int, e_var, e_bin, i_seq, a_rng, rngA_int, a_rng2, rngB_int, a_zip, zipA_some, a_enum, enA_some, src_tsI, src_lsI, t_call, t_prim, tru_bl, opt_some, t_nop, List.getElem?_cons_zero, List.getElem?_cons_succ, setTg, setTgs, List.set_cons_zero, List.set_cons_succ, wp_ok, wipeE, len0, len1, len2, len3, len4, len5, len6, len7, len8, len9, len10, if_true, if_false, Bool.false_eq_true, eq_int, ne_int, gt_int, lt_int', le_int', ge_int', add_int, sub_int, abs_int, int_int, Option.map_some, src_lst, src_tup, ix_t0, ix_t1, ix_t2, ix_t3, ix_l0, ix_l1, ix_l2, is_non, and_true, true_and])
            simp only [decide_eq_false tp]
            rw [kI_f, List.nil_append, q_if]
            (try simp only [List.cons_append, List.nil_append, w_var, t_var, w_int, w_str, w_bl, w_non, w_gl, w_bin, w_neg, t_cmp, w_cmp, t_chain, w_chain, t_isC, w_isC, w_isi, t_isi, t_bop1, t_bop, w_bop1, w_bop, t_nt, w_nt, w_ite, t_ite, w_nil, w_cons, a_tup, w_fz, w_mu, a_disp, a_comp, w_ofSeq, w_call, w_prim, w_ix, w_sl, w_rev, w_pop, w_popAt, w_app, e_nop, e_int, e_var, e_bin, i_seq, a_rng, rngA_int, a_rng2, rngB_int, a_zip, zipA_some, a_enum, enA_some, src_tsI, src_lsI, t_call, t_prim, tru_bl, opt_some, t_nop, List.getElem?_cons_zero, List.getElem?_cons_succ, setTg, setTgs, List.set_cons_zero, List.set_cons_succ, wp_ok, wipeE, len0, len1, len2, len3, len4, len5, len6, len7, len8, len9, len10, if_true, if_false, Bool.false_eq_true, eq_int, ne_int, gt_int, lt_int', le_int', ge_int', add_int, sub_int, abs_int, int_int, Option.map_some, src_lst, src_tup, ix_t0, ix_t1, ix_t2, ix_t3, ix_l0, ix_l1, ix_l2, is_non, and_true, true_and])
            simp only [decide_eq_true tn, decide_eq_true m0, if_true]
            rw [kI_t]
            simp only [List.cons_append, List.nil_append]
            rw [q_drop]
            have em : (0 : Int) - m = -m := by omega
            have et : (0 : Int) - t = -t := by omega
            have c11 : ∀ S, cf 11 [.tup [.int (-m), .int (-t)]] S = .ok (pr (Qp.red (-m) (-t))) S := fun S => h11 S (-m) (-t) (by omega) (by omega) (by omega)
            (try simp only [List.cons_append, List.nil_append, w_var, t_var, w_int, w_str, w_bl, w_non, w_gl, w_bin, w_neg, t_cmp, w_cmp, t_chain, w_chain, t_isC, w_isC, w_isi, t_isi, t_bop1, t_bop, w_bop1, w_bop, t_nt, w_nt, w_ite, t_ite, w_nil, w_cons, a_tup, w_fz, w_mu, a_disp, a_comp, w_ofSeq, w_call, w_prim, w_ix, w_sl, w_rev, w_pop, w_popAt, w_app, e_nop, e_int, e_var, e_bin, i_seq, a_rng, rngA_int, a_rng2, rngB_int, a_zip, zipA_some, a_enum, enA_some, src_tsI, src_lsI, t_call, t_prim, tru_bl, opt_some, t_nop, List.getElem?_cons_zero, List.getElem?_cons_succ, setTg, setTgs, List.set_cons_zero, List.set_cons_succ, wp_ok, wipeE, len0, len1, len2, len3, len4, len5, len6, len7, len8, len9, len10, if_true, if_false, Bool.false_eq_true, eq_int, ne_int, gt_int, lt_int', le_int', ge_int', add_int, sub_int, abs_int, int_int, Option.map_some, src_lst, src_tup, ix_t0, ix_t1, ix_t2, ix_t3, ix_l0, ix_l1, ix_l2, is_non, and_true, true_and, need_at (two_at0 (S := S) (a := .lst ((lowsOf L).map pr)) (b := .lst ((highsOf L).map pr))), em, et, c11, app_at (two_at0 (S := S) (a := .lst ((lowsOf L).map pr)) (b := .lst ((highsOf L).map pr))) (y := pr (Qp.red (-m) (-t))) (by rw [List.length_map]; omega), two_set0])
            rw [kD_eq, exs_nil]
            refine fin _ _ _ ?_ (by omega)
            rw [lows_app, highs_app, if_pos ⟨tn, m0⟩, if_neg tp, List.map_append]
            rfl
      · simp only [decide_eq_false m0]
        by_cases t0 : t = 0
        · simp only [show (t == 0) = true by simp [t0], decide_eq_false (show ¬ 0 < t by omega), if_true, Bool.false_eq_true, if_false, show ((true : Bool) = false) = False by simp]
          rw [kI_f, List.nil_append, q_if]
          (try simp only [List.cons_append, List.nil_append, w_var, t_var, w_int, w_str, w_bl, w_non, w_gl, w_bin, w_neg, t_cmp, w_cmp, t_chain, w_chain, t_isC, w_isC, w_isi, t_isi, t_bop1, t_bop, w_bop1, w_bop, t_nt, w_nt, w_ite, t_ite, w_nil, w_cons, a_tup, w_fz, w_mu, a_disp, a_comp, w_ofSeq, w_call, w_prim, w_ix, w_sl, w_rev, w_pop, w_popAt, w_app, e_nop, e_int, e_var, e_bin, i_seq, a_rng, rngA_int, a_rng2, rngB_int, a_zip, zipA_some, a_enum, enA_some, src_tsI, src_lsI, t_call, t_prim, tru_bl, opt_some, t_nop, List.getElem?_cons_zero, List.getElem?_cons_succ, setTg, setTgs, List.set_cons_zero, List.set_cons_succ, wp_ok, wipeE, len0, len1, len2, len3, len4, len5, len6, len7, len8, len9, len10, if_true, if_false, Bool.false_eq_true, eq_int, ne_int, gt_int, lt_int', le_int', ge_int', add_int, sub_int, abs_int, int_int, Option.map_some, src_lst, src_tup, ix_t0, ix_t1, ix_t2, ix_t3, ix_l0, ix_l1, ix_l2, is_non, and_true, true_and])
          simp only [decide_eq_false (show ¬ 0 < t by omega)]
          rw [kI_f, List.nil_append, q_if]
          (try simp only [List.cons_append, List.nil_append, w_var, t_var, w_int, w_str, w_bl, w_non, w_gl, w_bin, w_neg, t_cmp, w_cmp, t_chain, w_chain, t_isC, w_isC, w_isi, t_isi, t_bop1, t_bop, w_bop1, w_bop, t_nt, w_nt, w_ite, t_ite, w_nil, w_cons, a_tup, w_fz, w_mu, a_disp, a_comp, w_ofSeq, w_call, w_prim, w_ix, w_sl, w_rev, w_pop, w_popAt, w_app, e_nop, e_int, e_var, e_bin, i_seq, a_rng, rngA_int, a_rng2, rngB_int, a_zip, zipA_some, a_enum, enA_some, src_tsI, src_lsI, t_call, t_prim, tru_bl, opt_some, t_nop, List.getElem?_cons_zero, List.getElem?_cons_succ, setTg, setTgs, List.set_cons_zero, List.set_cons_succ, wp_ok, wipeE, len0, len1, len2, len3, len4, len5, len6, len7, len8, len9, len10, if_true, if_false, Bool.false_eq_true, eq_int, ne_int, gt_int, lt_int', le_int', ge_int', add_int, sub_int, abs_int, int_int, Option.map_some, src_lst, src_tup, ix_t0, ix_t1, ix_t2, ix_t3, ix_l0, ix_l1, ix_l2, is_non, and_true, true_and])
          simp only [decide_eq_false (show ¬ t < 0 by omega), Bool.false_eq_true, if_false]
          rw [kI_f, List.nil_append, exs_nil]
          refine fin _ _ _ ?_ (by omega)
          rw [lows_app, highs_app, if_neg (by omega), if_neg (by omega)]
        · by_cases tp : 0 < t
          · simp only [show (t == 0) = false by simp [t0], decide_eq_true tp, if_true, Bool.false_eq_true, if_false, show ((true : Bool) = false) = False by simp]
            rw [kI_f, List.nil_append, q_if]
            (try simp only [List.cons_append, List.nil_append, w_var, t_var, w_int, w_str, w_bl, w_non, w_gl, w_bin, w_neg, t_cmp, w_cmp, t_chain, w_chain, t_isC, w_isC, w_isi, t_isi, t_bop1, t_bop, w_bop1, w_bop, t_nt, w_nt, w_ite, t_ite, w_nil, w_cons, a_tup, w_fz, w_mu, a_disp, a_comp, w_ofSeq, w_call, w_prim, w_ix, w_sl, w_rev, w_pop, w_popAt, w_app, e_nop, e_int, e_var, e_bin, i_seq, a_rng, rngA_int, a_rng2, rngB_int, a_zip, zipA_some, a_enum, enA_some, src_tsI, src_lsI, t_call, t_prim, tru_bl, opt_some, t_nop, List.getElem?_cons_zero, List.getElem?_cons_succ, setTg, setTgs, List.set_cons_zero, List.set_cons_succ, wp_ok, wipeE, len0, len1, len2, len3, len4, len5, len6, len7, len8, len9, len10, if_true, if_false, Bool.false_eq_true, eq_int, ne_int, gt_int, lt_int', le_int', ge_int', add_int, sub_int, abs_int, int_int, Option.map_some, src_lst, src_tup, ix_t0, ix_t1, ix_t2, ix_t3, ix_l0, ix_l1, ix_l2, is_non, and_true, true_and])
            simp only [decide_eq_true tp]
            rw [kI_t]
            simp only [List.cons_append, List.nil_append]
            rw [q_drop]
            have c11 : ∀ S, cf 11 [.tup [.int m, .int t]] S = .ok (pr (Qp.red m t)) S := fun S => h11 S m t tp (by omega) (by omega)
            (try simp only [List.cons_append, List.nil_append, w_var, t_var, w_int, w_str, w_bl, w_non, w_gl, w_bin, w_neg, t_cmp, w_cmp, t_chain, w_chain, t_isC, w_isC, w_isi, t_isi, t_bop1, t_bop, w_bop1, w_bop, t_nt, w_nt, w_ite, t_ite, w_nil, w_cons, a_tup, w_fz, w_mu, a_disp, a_comp, w_ofSeq, w_call, w_prim, w_ix, w_sl, w_rev, w_pop, w_popAt, w_app, e_nop, e_int, e_var, e_bin, i_seq, a_rng, rngA_int, a_rng2, rngB_int, a_zip, zipA_some, a_enum, enA_some, src_tsI, src_lsI, t_call, t_prim, tru_bl, opt_some, t_nop, List.getElem?_cons_zero, List.getElem?_cons_succ, setTg, setTgs, List.set_cons_zero, List.set_cons_succ, wp_ok, wipeE, len0, len1, len2, len3, len4, len5, len6, len7, len8, len9, len10, if_true, if_false, Bool.false_eq_true, eq_int, ne_int, gt_int, lt_int', le_int', ge_int', add_int, sub_int, abs_int, int_int, Option.map_some, src_lst, src_tup, ix_t0, ix_t1, ix_t2, ix_t3, ix_l0, ix_l1, ix_l2, is_non, and_true, true_and, need_at (two_at1 (S := S) (a := .lst ((lowsOf L).map pr)) (b := .lst ((highsOf L).map pr))), c11, app_at (two_at1 (S := S) (a := .lst ((lowsOf L).map pr)) (b := .lst ((highsOf L).map pr))) (y := pr (Qp.red m t)) (by rw [List.length_map]; omega), two_set1])
            rw [kD_eq, q_if]
            (try simp only [List.cons_append, List.nil_append, w_var, t_var, w_int, w_str, w_bl, w_non, w_gl, w_bin, w_neg, t_cmp, w_cmp, t_chain, w_chain, t_isC, w_isC, w_isi, t_isi, t_bop1, t_bop, w_bop1, w_bop, t_nt, w_nt, w_ite, t_ite, w_nil, w_cons, a_tup, w_fz, w_mu, a_disp, a_comp, w_ofSeq, w_call, w_prim, w_ix, w_sl, w_rev, w_pop, w_popAt, w_app, e_nop, e_int, e_var, e_bin, i_seq, a_rng, rngA_int, a_rng2, rngB_int, a_zip, zipA_some, a_enum, enA_some, src_tsI, src_lsI, t_call, t_prim, tru_bl, opt_some, t_nop, List.getElem?_cons_zero, List.getElem?_cons_succ, setTg, setTgs, List.set_cons_zero, List.set_cons_succ, wp_ok, wipeE, len0, len1, len2, len3, len4, len5, len6, len7, len8, len9, len10, if_true, if_false, Bool.false_eq_true, eq_int, ne_int, gt_int, lt_int', le_int', ge_int', add_int, sub_int, abs_int, int_int, Option.map_some, src_lst, src_tup, ix_t0, ix_t1, ix_t2, ix_t3, ix_l0, ix_l1, ix_l2, is_non, and_true, true_and])
            simp only [decide_eq_false (show ¬ t < 0 by omega), Bool.false_eq_true, if_false]
            rw [kI_f, List.nil_append, exs_nil]
            refine fin _ _ _ ?_ (by omega)
            rw [lows_app, highs_app, if_neg (by omega), if_pos tp, List.map_append]
            rfl
          · simp only [show (t == 0) = false by simp [t0], decide_eq_false tp, if_true, Bool.false_eq_true, if_false, show ((true : Bool) = false) = False by simp]
            rw [kI_f, List.nil_append, q_if]
            (try simp only [List.cons_append, List.nil_append, w_var, t_var, w_int, w_str, w_bl, w_non, w_gl, w_bin, w_neg, t_cmp, w_cmp, t_chain, w_chain, t_isC, w_isC, w_isi, t_isi, t_bop1, t_bop, w_bop1, w_bop, t_nt, w_nt, w_ite, t_ite, w_nil, w_cons, a_tup, w_fz, w_mu, a_disp, a_comp, w_ofSeq, w_call, w_prim, w_ix, w_sl, w_rev, w_pop, w_popAt, w_app, e_nop, e_int, e_var, e_bin, i_seq, a_rng, rngA_int, a_rng2, rngB_int, a_zip, zipA_some, a_enum, enA_some, src_tsI, src_lsI, t_call, t_prim, tru_bl, opt_some, t_nop, List.getElem?_cons_zero, List.getElem?_cons_succ, setTg, setTgs, List.set_cons_zero, List.set_cons_succ, wp_ok, wipeE, len0, len1, len2, len3, len4, len5, len6, len7, len8, len9, len10, if_true, if_false, Bool.false_eq_true, eq_int, ne_int, gt_int, lt_int', le_int', ge_int', add_int, sub_int, abs_int, int_int, Option.map_some, src_lst, src_tup, ix_t0, ix_t1, ix_t2, ix_t3, ix_l0, ix_l1, ix_l2, is_non, and_true, true_and])
            simp only [decide_eq_false tp]
            rw [kI_f, List.nil_append, q_if]
            (try simp only [List.cons_append, List.nil_append, w_var, t_var, w_int, w_str, w_bl, w_non, w_gl, w_bin, w_neg, t_cmp, w_cmp, t_chain, w_chain, t_isC, w_isC, w_isi, t_isi, t_bop1, t_bop, w_bop1, w_bop, t_nt, w_nt, w_ite, t_ite, w_nil, w_cons, a_tup, w_fz, w_mu, a_disp, a_comp, w_ofSeq, w_call, w_prim, w_ix, w_sl, w_rev, w_pop, w_popAt, w_app, e_nop, e_int, e_var, e_bin, i_seq, a_rng, rngA_int, a_rng2, rngB_int, a_zip, zipA_some, a_enum, enA_some, src_tsI, src_lsI, t_call, t_prim, tru_bl, opt_some, t_nop, List.getElem?_cons_zero, List.getElem?_cons_succ, setTg, setTgs, List.set_cons_zero, List.set_cons_succ, wp_ok, wipeE, len0, len1, len2, len3, len4, len5, len6, len7, len8, len9, len10, if_true, if_false, Bool.false_eq_true, eq_int, ne_int, gt_int, lt_int', le_int', ge_int', add_int, sub_int, abs_int, int_int, Option.map_some, src_lst, src_tup, ix_t0, ix_t1, ix_t2, ix_t3, ix_l0, ix_l1, ix_l2, is_non, and_true, true_and])
            simp only [decide_eq_true (show t < 0 by omega), decide_eq_false m0, if_true]
            rw [kI_f, List.nil_append, exs_nil]
            refine fin _ _ _ ?_ (by omega)
            rw [lows_app, highs_app, if_neg (by omega), if_neg tp]
    · rintro env S' ⟨rfl, j9, j10, j11, j12, j13, rfl, hnb2⟩
      have e : allP base extra (dn ++ [s]) = allP base extra dn ++ s.1.map (prOf base extra s) := by
        unfold allP
        rw [List.map_append, List.flatten_append]
        simp [prs]
      show kR _ _ _ _ _ _
      rw [kR_eq, exs_nil, e]
      exact ⟨rfl, _, _, _, _, _, _, _, rfl, hnb2⟩
  · rintro env S' ⟨rfl, j7, j8, j9, j10, j11, j12, j13, rfl, hnb⟩
    generalize hL : allP base extra ss = L at *
    have lowl : (lowsOf L).length ≤ 1201 := by
      unfold lowsOf
      rw [List.length_cons, List.length_map]
      have := List.length_filter_le (fun p : Int × Int => decide (p.1 < 0) && decide (p.2 < 0)) L
      omega
    have highl : (highsOf L).length ≤ 1200 := by
      unfold highsOf
      rw [List.length_map]
      have := List.length_filter_le (fun p : Int × Int => decide (0 < p.1)) L
      omega
    have sl := lows_small (B := 4800) (by decide) small
    have sh := highs_small (B := 4800) small
    have o0 := two_at0 (S := S) (a := .lst ((lowsOf L).map pr)) (b := .lst ((highsOf L).map pr))
    have o1 := two_at1 (S := S) (a := .lst ((lowsOf L).map pr)) (b := .lst ((highsOf L).map pr))
    have tk := two_take (S := S) (a := .lst ((lowsOf L).map pr)) (b := .lst ((highsOf L).map pr))
    generalize hT : S ++ [Ob.lst ((lowsOf L).map pr), Ob.lst ((highsOf L).map pr)] = T at *
    have ll1 : (((lowsOf L).map pr).length ≤ lim) = True := len_map (by omega)
    have ll2 : (((highsOf L).map pr).length ≤ lim) = True := len_map (by omega)
    show kR _ _ _ _ _ _
    rw [kR_eq, q_asg]
    (try simp only [List.cons_append, List.nil_append, w_var, t_var, w_int, w_str, w_bl, w_non, w_gl, w_bin, w_neg, t_cmp, w_cmp, t_chain, w_chain, t_isC, w_isC, w_isi, t_isi, t_bop1, t_bop, w_bop1, w_bop, t_nt, w_nt, w_ite, t_ite, w_nil, w_cons, a_tup, w_fz, w_mu, a_disp, a_comp, w_ofSeq, w_call, w_prim, w_ix, w_sl, w_rev, w_pop, w_popAt, w_app, e_nop, e_int, e_var, e_bin, i_seq, a_rng, rngA_int, a_rng2, rngB_int, a_zip, zipA_some, a_enum, enA_some, src_tsI, src_lsI, t_call, t_prim, tru_bl, opt_some, t_nop, List.getElem?_cons_zero, List.getElem?_cons_succ, setTg, setTgs, List.set_cons_zero, List.set_cons_succ, wp_ok, wipeE, len0, len1, len2, len3, len4, len5, len6, len7, len8, len9, len10, if_true, if_false, Bool.false_eq_true, eq_int, ne_int, gt_int, lt_int', le_int', ge_int', add_int, sub_int, abs_int, int_int, Option.map_some, src_lst, src_tup, ix_t0, ix_t1, ix_t2, ix_t3, ix_l0, ix_l1, ix_l2, is_non, and_true, true_and, srcl o0, ll1])
    rw [comp_on (fun p : Int × Int => ((lowsOf L).filter fun q => decide (Qp.lt p q)).isEmpty) (fun p => pr p) (stays_cell o0) (fun p hp => by
      have inner := comp_on (w := [(S.length, (lowsOf L).map pr)]) (tg := .v 13) (env := [some (tsI base), some (tsI extra), some (.tup (ss.map sgT)), none, none, some (.cell S.length), some (.cell (S.length + 1)), j7, j8, j9, j10, j11, some (pr p), none]) (c := (ev cf (.cmp .gt (.bin .mul (.ix (.var 13) (.int 0)) (.ix (.var 12) (.int 1))) (.bin .mul (.ix (.var 12) (.int 0)) (.ix (.var 13) (.int 1))))).t) (elt := (ev cf (.int 1)).v) (S := T) (f := pr) (xs := lowsOf L) (fun q => decide (Qp.lt p q)) (fun _ => Tv.int 1) (stays_cell o0) (fun q hq => by
        have a := sl p hp
        have b := sl q hq
        (try simp only [List.cons_append, List.nil_append, w_var, t_var, w_int, w_str, w_bl, w_non, w_gl, w_bin, w_neg, t_cmp, w_cmp, t_chain, w_chain, t_isC, w_isC, w_isi, t_isi, t_bop1, t_bop, w_bop1, w_bop, t_nt, w_nt, w_ite, t_ite, w_nil, w_cons, a_tup, w_fz, w_mu, a_disp, a_comp, w_ofSeq, w_call, w_prim, w_ix, w_sl, w_rev, w_pop, w_popAt, w_app, e_nop, e_int, e_var, e_bin, i_seq, a_rng, rngA_int, a_rng2, rngB_int, a_zip, zipA_some, a_enum, enA_some, src_tsI, src_lsI, t_call, t_prim, tru_bl, opt_some, t_nop, List.getElem?_cons_zero, List.getElem?_cons_succ, setTg, setTgs, List.set_cons_zero, List.set_cons_succ, wp_ok, wipeE, len0, len1, len2, len3, len4, len5, len6, len7, len8, len9, len10, if_true, if_false, Bool.false_eq_true, eq_int, ne_int, gt_int, lt_int', le_int', ge_int', add_int, sub_int, abs_int, int_int, Option.map_some, src_lst, src_tup, ix_t0, ix_t1, ix_t2, ix_t3, ix_l0, ix_l1, ix_l2, is_non, and_true, true_and, ix_pr0, ix_pr1, mul_small (S := T) b.1 a.2, mul_small (S := T) a.1 b.2])
        refine ⟨rfl, ?_⟩
        split <;> trivial)
      (try simp only [List.cons_append, List.nil_append, w_var, t_var, w_int, w_str, w_bl, w_non, w_gl, w_bin, w_neg, t_cmp, w_cmp, t_chain, w_chain, t_isC, w_isC, w_isi, t_isi, t_bop1, t_bop, w_bop1, w_bop, t_nt, w_nt, w_ite, t_ite, w_nil, w_cons, a_tup, w_fz, w_mu, a_disp, a_comp, w_ofSeq, w_call, w_prim, w_ix, w_sl, w_rev, w_pop, w_popAt, w_app, e_nop, e_int, e_var, e_bin, i_seq, a_rng, rngA_int, a_rng2, rngB_int, a_zip, zipA_some, a_enum, enA_some, src_tsI, src_lsI, t_call, t_prim, tru_bl, opt_some, t_nop, List.getElem?_cons_zero, List.getElem?_cons_succ, setTg, setTgs, List.set_cons_zero, List.set_cons_succ, wp_ok, wipeE, len0, len1, len2, len3, len4, len5, len6, len7, len8, len9, len10, if_true, if_false, Bool.false_eq_true, eq_int, ne_int, gt_int, lt_int', le_int', ge_int', add_int, sub_int, abs_int, int_int, Option.map_some, src_lst, src_tup, ix_t0, ix_t1, ix_t2, ix_t3, ix_l0, ix_l1, ix_l2, is_non, and_true, true_and, srcl o0, ll1, inner, ones_eq])
      split <;> trivial)]
    obtain ⟨lo, lr, hlo⟩ := tops_ne (l := lowsOf L) (by unfold lowsOf; simp) lows_pos
    rw [show ((lowsOf L).filter fun p : Int × Int => ((lowsOf L).filter fun q => decide (Qp.lt p q)).isEmpty) = lo :: lr from hlo, List.map_cons]
    (try simp only [List.cons_append, List.nil_append, w_var, t_var, w_int, w_str, w_bl, w_non, w_gl, w_bin, w_neg, t_cmp, w_cmp, t_chain, w_chain, t_isC, w_isC, w_isi, t_isi, t_bop1, t_bop, w_bop1, w_bop, t_nt, w_nt, w_ite, t_ite, w_nil, w_cons, a_tup, w_fz, w_mu, a_disp, a_comp, w_ofSeq, w_call, w_prim, w_ix, w_sl, w_rev, w_pop, w_popAt, w_app, e_nop, e_int, e_var, e_bin, i_seq, a_rng, rngA_int, a_rng2, rngB_int, a_zip, zipA_some, a_enum, enA_some, src_tsI, src_lsI, t_call, t_prim, tru_bl, opt_some, t_nop, List.getElem?_cons_zero, List.getElem?_cons_succ, setTg, setTgs, List.set_cons_zero, List.set_cons_succ, wp_ok, wipeE, len0, len1, len2, len3, len4, len5, len6, len7, len8, len9, len10, if_true, if_false, Bool.false_eq_true, eq_int, ne_int, gt_int, lt_int', le_int', ge_int', add_int, sub_int, abs_int, int_int, Option.map_some, src_lst, src_tup, ix_t0, ix_t1, ix_t2, ix_t3, ix_l0, ix_l1, ix_l2, is_non, and_true, true_and])
    rw [kA_eq]
    (try simp only [List.cons_append, List.nil_append, w_var, t_var, w_int, w_str, w_bl, w_non, w_gl, w_bin, w_neg, t_cmp, w_cmp, t_chain, w_chain, t_isC, w_isC, w_isi, t_isi, t_bop1, t_bop, w_bop1, w_bop, t_nt, w_nt, w_ite, t_ite, w_nil, w_cons, a_tup, w_fz, w_mu, a_disp, a_comp, w_ofSeq, w_call, w_prim, w_ix, w_sl, w_rev, w_pop, w_popAt, w_app, e_nop, e_int, e_var, e_bin, i_seq, a_rng, rngA_int, a_rng2, rngB_int, a_zip, zipA_some, a_enum, enA_some, src_tsI, src_lsI, t_call, t_prim, tru_bl, opt_some, t_nop, List.getElem?_cons_zero, List.getElem?_cons_succ, setTg, setTgs, List.set_cons_zero, List.set_cons_succ, wp_ok, wipeE, len0, len1, len2, len3, len4, len5, len6, len7, len8, len9, len10, if_true, if_false, Bool.false_eq_true, eq_int, ne_int, gt_int, lt_int', le_int', ge_int', add_int, sub_int, abs_int, int_int, Option.map_some, src_lst, src_tup, ix_t0, ix_t1, ix_t2, ix_t3, ix_l0, ix_l1, ix_l2, is_non, and_true, true_and])
    rw [q_asg]
    (try simp only [List.cons_append, List.nil_append, w_var, t_var, w_int, w_str, w_bl, w_non, w_gl, w_bin, w_neg, t_cmp, w_cmp, t_chain, w_chain, t_isC, w_isC, w_isi, t_isi, t_bop1, t_bop, w_bop1, w_bop, t_nt, w_nt, w_ite, t_ite, w_nil, w_cons, a_tup, w_fz, w_mu, a_disp, a_comp, w_ofSeq, w_call, w_prim, w_ix, w_sl, w_rev, w_pop, w_popAt, w_app, e_nop, e_int, e_var, e_bin, i_seq, a_rng, rngA_int, a_rng2, rngB_int, a_zip, zipA_some, a_enum, enA_some, src_tsI, src_lsI, t_call, t_prim, tru_bl, opt_some, t_nop, List.getElem?_cons_zero, List.getElem?_cons_succ, setTg, setTgs, List.set_cons_zero, List.set_cons_succ, wp_ok, wipeE, len0, len1, len2, len3, len4, len5, len6, len7, len8, len9, len10, if_true, if_false, Bool.false_eq_true, eq_int, ne_int, gt_int, lt_int', le_int', ge_int', add_int, sub_int, abs_int, int_int, Option.map_some, src_lst, src_tup, ix_t0, ix_t1, ix_t2, ix_t3, ix_l0, ix_l1, ix_l2, is_non, and_true, true_and, srcl o1, ll2])
    rw [comp_on (fun p : Int × Int => ((highsOf L).filter fun q => decide (Qp.lt q p)).isEmpty) (fun p => pr p) (stays_cell o1) (fun p hp => by
      have inner := comp_on (w := [(S.length + 1, (highsOf L).map pr)]) (tg := .v 13) (env := [some (tsI base), some (tsI extra), some (.tup (ss.map sgT)), some (pr lo), none, some (.cell S.length), some (.cell (S.length + 1)), j7, j8, j9, j10, j11, some (pr p), none]) (c := (ev cf (.cmp .lt (.bin .mul (.ix (.var 13) (.int 0)) (.ix (.var 12) (.int 1))) (.bin .mul (.ix (.var 12) (.int 0)) (.ix (.var 13) (.int 1))))).t) (elt := (ev cf (.int 1)).v) (S := T) (f := pr) (xs := highsOf L) (fun q => decide (Qp.lt q p)) (fun _ => Tv.int 1) (stays_cell o1) (fun q hq => by
        have a := sh p hp
        have b := sh q hq
        (try simp only [List.cons_append, List.nil_append, w_var, t_var, w_int, w_str, w_bl, w_non, w_gl, w_bin, w_neg, t_cmp, w_cmp, t_chain, w_chain, t_isC, w_isC, w_isi, t_isi, t_bop1, t_bop, w_bop1, w_bop, t_nt, w_nt, w_ite, t_ite, w_nil, w_cons, a_tup, w_fz, w_mu, a_disp, a_comp, w_ofSeq, w_call, w_prim, w_ix, w_sl, w_rev, w_pop, w_popAt, w_app, e_nop, e_int, e_var, e_bin, i_seq, a_rng, rngA_int, a_rng2, rngB_int, a_zip, zipA_some, a_enum, enA_some, src_tsI, src_lsI, t_call, t_prim, tru_bl, opt_some, t_nop, List.getElem?_cons_zero, List.getElem?_cons_succ, setTg, setTgs, List.set_cons_zero, List.set_cons_succ, wp_ok, wipeE, len0, len1, len2, len3, len4, len5, len6, len7, len8, len9, len10, if_true, if_false, Bool.false_eq_true, eq_int, ne_int, gt_int, lt_int', le_int', ge_int', add_int, sub_int, abs_int, int_int, Option.map_some, src_lst, src_tup, ix_t0, ix_t1, ix_t2, ix_t3, ix_l0, ix_l1, ix_l2, is_non, and_true, true_and, ix_pr0, ix_pr1, mul_small (S := T) b.1 a.2, mul_small (S := T) a.1 b.2])
        refine ⟨rfl, ?_⟩
        split <;> trivial)
      (try simp only [List.cons_append, List.nil_append, w_var, t_var, w_int, w_str, w_bl, w_non, w_gl, w_bin, w_neg, t_cmp, w_cmp, t_chain, w_chain, t_isC, w_isC, w_isi, t_isi, t_bop1, t_bop, w_bop1, w_bop, t_nt, w_nt, w_ite, t_ite, w_nil, w_cons, a_tup, w_fz, w_mu, a_disp, a_comp, w_ofSeq, w_call, w_prim, w_ix, w_sl, w_rev, w_pop, w_popAt, w_app, e_nop, e_int, e_var, e_bin, i_seq, a_rng, rngA_int, a_rng2, rngB_int, a_zip, zipA_some, a_enum, enA_some, src_tsI, src_lsI, t_call, t_prim, tru_bl, opt_some, t_nop, List.getElem?_cons_zero, List.getElem?_cons_succ, setTg, setTgs, List.set_cons_zero, List.set_cons_succ, wp_ok, wipeE, len0, len1, len2, len3, len4, len5, len6, len7, len8, len9, len10, if_true, if_false, Bool.false_eq_true, eq_int, ne_int, gt_int, lt_int', le_int', ge_int', add_int, sub_int, abs_int, int_int, Option.map_some, src_lst, src_tup, ix_t0, ix_t1, ix_t2, ix_t3, ix_l0, ix_l1, ix_l2, is_non, and_true, true_and, srcl o1, ll2, inner, ones_eq])
      split <;> trivial)]
    rw [show ((highsOf L).filter fun p : Int × Int => ((highsOf L).filter fun q => decide (Qp.lt q p)).isEmpty) = bots (highsOf L) from rfl]
    (try simp only [List.cons_append, List.nil_append, w_var, t_var, w_int, w_str, w_bl, w_non, w_gl, w_bin, w_neg, t_cmp, w_cmp, t_chain, w_chain, t_isC, w_isC, w_isi, t_isi, t_bop1, t_bop, w_bop1, w_bop, t_nt, w_nt, w_ite, t_ite, w_nil, w_cons, a_tup, w_fz, w_mu, a_disp, a_comp, w_ofSeq, w_call, w_prim, w_ix, w_sl, w_rev, w_pop, w_popAt, w_app, e_nop, e_int, e_var, e_bin, i_seq, a_rng, rngA_int, a_rng2, rngB_int, a_zip, zipA_some, a_enum, enA_some, src_tsI, src_lsI, t_call, t_prim, tru_bl, opt_some, t_nop, List.getElem?_cons_zero, List.getElem?_cons_succ, setTg, setTgs, List.set_cons_zero, List.set_cons_succ, wp_ok, wipeE, len0, len1, len2, len3, len4, len5, len6, len7, len8, len9, len10, if_true, if_false, Bool.false_eq_true, eq_int, ne_int, gt_int, lt_int', le_int', ge_int', add_int, sub_int, abs_int, int_int, Option.map_some, src_lst, src_tup, ix_t0, ix_t1, ix_t2, ix_t3, ix_l0, ix_l1, ix_l2, is_non, and_true, true_and])
    rw [kA_eq]
    (try simp only [List.cons_append, List.nil_append, w_var, t_var, w_int, w_str, w_bl, w_non, w_gl, w_bin, w_neg, t_cmp, w_cmp, t_chain, w_chain, t_isC, w_isC, w_isi, t_isi, t_bop1, t_bop, w_bop1, w_bop, t_nt, w_nt, w_ite, t_ite, w_nil, w_cons, a_tup, w_fz, w_mu, a_disp, a_comp, w_ofSeq, w_call, w_prim, w_ix, w_sl, w_rev, w_pop, w_popAt, w_app, e_nop, e_int, e_var, e_bin, i_seq, a_rng, rngA_int, a_rng2, rngB_int, a_zip, zipA_some, a_enum, enA_some, src_tsI, src_lsI, t_call, t_prim, tru_bl, opt_some, t_nop, List.getElem?_cons_zero, List.getElem?_cons_succ, setTg, setTgs, List.set_cons_zero, List.set_cons_succ, wp_ok, wipeE, len0, len1, len2, len3, len4, len5, len6, len7, len8, len9, len10, if_true, if_false, Bool.false_eq_true, eq_int, ne_int, gt_int, lt_int', le_int', ge_int', add_int, sub_int, abs_int, int_int, Option.map_some, src_lst, src_tup, ix_t0, ix_t1, ix_t2, ix_t3, ix_l0, ix_l1, ix_l2, is_non, and_true, true_and])
    rw [q_if]
    (try simp only [List.cons_append, List.nil_append, w_var, t_var, w_int, w_str, w_bl, w_non, w_gl, w_bin, w_neg, t_cmp, w_cmp, t_chain, w_chain, t_isC, w_isC, w_isi, t_isi, t_bop1, t_bop, w_bop1, w_bop, t_nt, w_nt, w_ite, t_ite, w_nil, w_cons, a_tup, w_fz, w_mu, a_disp, a_comp, w_ofSeq, w_call, w_prim, w_ix, w_sl, w_rev, w_pop, w_popAt, w_app, e_nop, e_int, e_var, e_bin, i_seq, a_rng, rngA_int, a_rng2, rngB_int, a_zip, zipA_some, a_enum, enA_some, src_tsI, src_lsI, t_call, t_prim, tru_bl, opt_some, t_nop, List.getElem?_cons_zero, List.getElem?_cons_succ, setTg, setTgs, List.set_cons_zero, List.set_cons_succ, wp_ok, wipeE, len0, len1, len2, len3, len4, len5, len6, len7, len8, len9, len10, if_true, if_false, Bool.false_eq_true, eq_int, ne_int, gt_int, lt_int', le_int', ge_int', add_int, sub_int, abs_int, int_int, Option.map_some, src_lst, src_tup, ix_t0, ix_t1, ix_t2, ix_t3, ix_l0, ix_l1, ix_l2, is_non, and_true, true_and, ne_prs])
    have lom : lo ∈ tops (lowsOf L) := by rw [hlo]; exact List.mem_cons_self
    have lo1 := sl lo (tops_spec lo lom).1
    cases hb : bots (highsOf L) with
    | nil =>
      have he0 : highsOf L = [] := by
        by_cases z : highsOf L = []
        · exact z
        · obtain ⟨p, r, e⟩ := bots_ne z highs_pos
          rw [e] at hb
          cases hb
      have P := law_PR hnb lom (.inl ⟨he0, rfl⟩)
      simp only [List.isEmpty_nil, Bool.not_true, Bool.false_eq_true, if_false]
      rw [kI_f, List.nil_append, q_ret]
      (try simp only [List.cons_append, List.nil_append, w_var, t_var, w_int, w_str, w_bl, w_non, w_gl, w_bin, w_neg, t_cmp, w_cmp, t_chain, w_chain, t_isC, w_isC, w_isi, t_isi, t_bop1, t_bop, w_bop1, w_bop, t_nt, w_nt, w_ite, t_ite, w_nil, w_cons, a_tup, w_fz, w_mu, a_disp, a_comp, w_ofSeq, w_call, w_prim, w_ix, w_sl, w_rev, w_pop, w_popAt, w_app, e_nop, e_int, e_var, e_bin, i_seq, a_rng, rngA_int, a_rng2, rngB_int, a_zip, zipA_some, a_enum, enA_some, src_tsI, src_lsI, t_call, t_prim, tru_bl, opt_some, t_nop, List.getElem?_cons_zero, List.getElem?_cons_succ, setTg, setTgs, List.set_cons_zero, List.set_cons_succ, wp_ok, wipeE, len0, len1, len2, len3, len4, len5, len6, len7, len8, len9, len10, if_true, if_false, Bool.false_eq_true, eq_int, ne_int, gt_int, lt_int', le_int', ge_int', add_int, sub_int, abs_int, int_int, Option.map_some, src_lst, src_tup, ix_t0, ix_t1, ix_t2, ix_t3, ix_l0, ix_l1, ix_l2, is_non, and_true, true_and, ne_prs (l := []), List.isEmpty_nil, Bool.not_true])
      exact ⟨tk, rfl, .inr ⟨hnb, lo, none, P, .inr ⟨fun z => z, rfl⟩⟩⟩
    | cons g gr =>
      have gm : g ∈ bots (highsOf L) := by rw [hb]; exact List.mem_cons_self
      have P := law_PR hnb lom (.inr ⟨g, gm, rfl⟩)
      have g1 := sh g (bots_spec g gm).1
      have ig : ∀ S, ixV S (.lst (pr g :: gr.map pr)) (.int 0) = some (pr g) := fun S => ix_l0
      simp only [List.isEmpty_cons, Bool.not_false, if_true, List.map_cons]
      (try simp only [List.cons_append, List.nil_append, w_var, t_var, w_int, w_str, w_bl, w_non, w_gl, w_bin, w_neg, t_cmp, w_cmp, t_chain, w_chain, t_isC, w_isC, w_isi, t_isi, t_bop1, t_bop, w_bop1, w_bop, t_nt, w_nt, w_ite, t_ite, w_nil, w_cons, a_tup, w_fz, w_mu, a_disp, a_comp, w_ofSeq, w_call, w_prim, w_ix, w_sl, w_rev, w_pop, w_popAt, w_app, e_nop, e_int, e_var, e_bin, i_seq, a_rng, rngA_int, a_rng2, rngB_int, a_zip, zipA_some, a_enum, enA_some, src_tsI, src_lsI, t_call, t_prim, tru_bl, opt_some, t_nop, List.getElem?_cons_zero, List.getElem?_cons_succ, setTg, setTgs, List.set_cons_zero, List.set_cons_succ, wp_ok, wipeE, len0, len1, len2, len3, len4, len5, len6, len7, len8, len9, len10, if_true, if_false, Bool.false_eq_true, eq_int, ne_int, gt_int, lt_int', le_int', ge_int', add_int, sub_int, abs_int, int_int, Option.map_some, src_lst, src_tup, ix_t0, ix_t1, ix_t2, ix_t3, ix_l0, ix_l1, ix_l2, is_non, and_true, true_and, ig, ix_pr0, ix_pr1, mul_small (S := T) g1.1 lo1.2, mul_small (S := T) lo1.1 g1.2])
      by_cases c : Qp.lt g lo
      · simp only [show decide (g.1 * lo.2 < lo.1 * g.2) = true from decide_eq_true c]
        rw [kI_t]
        (try simp only [exs_nil, q_asg, kA_eq, kR_eq, q_drop, kD_eq, q_ret, q_if, kI_t, kI_f, q_set, kS_eq, q_pass, q_brk, q_cont, q_for, kF_eq, List.cons_append, List.nil_append, w_var, t_var, w_int, w_str, w_bl, w_non, w_gl, w_bin, w_neg, t_cmp, w_cmp, t_chain, w_chain, t_isC, w_isC, w_isi, t_isi, t_bop1, t_bop, w_bop1, w_bop, t_nt, w_nt, w_ite, t_ite, w_nil, w_cons, a_tup, w_fz, w_mu, a_disp, a_comp, w_ofSeq, w_call, w_prim, w_ix, w_sl, w_rev, w_pop, w_popAt, w_app, e_nop, e_int, e_var, e_bin, i_seq, a_rng, rngA_int, a_rng2, rngB_int, a_zip, zipA_some, a_enum, enA_some, src_tsI, src_lsI, t_call, t_prim, tru_bl, opt_some, t_nop, List.getElem?_cons_zero, List.getElem?_cons_succ, setTg, setTgs, List.set_cons_zero, List.set_cons_succ, wp_ok, wipeE, len0, len1, len2, len3, len4, len5, len6, len7, len8, len9, len10, if_true, if_false, Bool.false_eq_true, eq_int, ne_int, gt_int, lt_int', le_int', ge_int', add_int, sub_int, abs_int, int_int, Option.map_some, src_lst, src_tup, ix_t0, ix_t1, ix_t2, ix_t3, ix_l0, ix_l1, ix_l2, is_non, and_true, true_and])
        exact ⟨tk, rfl, .inr ⟨hnb, lo, some g, P, .inl ⟨c, rfl⟩⟩⟩
      · simp only [show decide (g.1 * lo.2 < lo.1 * g.2) = false from decide_eq_false c]
        rw [kI_f, List.nil_append, q_ret]
        have ne2 : ∀ S, cmpV .ne S (.lst (pr g :: gr.map pr)) (.lst []) = some true := fun S => ne_prs (S := S) (l := g :: gr)
        (try simp only [List.cons_append, List.nil_append, w_var, t_var, w_int, w_str, w_bl, w_non, w_gl, w_bin, w_neg, t_cmp, w_cmp, t_chain, w_chain, t_isC, w_isC, w_isi, t_isi, t_bop1, t_bop, w_bop1, w_bop, t_nt, w_nt, w_ite, t_ite, w_nil, w_cons, a_tup, w_fz, w_mu, a_disp, a_comp, w_ofSeq, w_call, w_prim, w_ix, w_sl, w_rev, w_pop, w_popAt, w_app, e_nop, e_int, e_var, e_bin, i_seq, a_rng, rngA_int, a_rng2, rngB_int, a_zip, zipA_some, a_enum, enA_some, src_tsI, src_lsI, t_call, t_prim, tru_bl, opt_some, t_nop, List.getElem?_cons_zero, List.getElem?_cons_succ, setTg, setTgs, List.set_cons_zero, List.set_cons_succ, wp_ok, wipeE, len0, len1, len2, len3, len4, len5, len6, len7, len8, len9, len10, if_true, if_false, Bool.false_eq_true, eq_int, ne_int, gt_int, lt_int', le_int', ge_int', add_int, sub_int, abs_int, int_int, Option.map_some, src_lst, src_tup, ix_t0, ix_t1, ix_t2, ix_t3, ix_l0, ix_l1, ix_l2, is_non, and_true, true_and, ne2, ig])
        exact ⟨tk, rfl, .inr ⟨hnb, lo, some g, P, .inr ⟨c, rfl⟩⟩⟩
end Mp
namespace Mp
/-! ### drawn markets and sights -/
theorem drawn_P {cf : Nat → List Tv → M Tv} (P : Int → Prop) {env : Env} {S : Sto} {b n : Nat} (d : Dk b S) (hn : n ≤ 1000) (hb : b + n ≤ 900000) {elt : Env → M Tv} {i : Nat}
    (he : ∀ (t : Tv) (S : Sto) (b : Nat), b + 1 ≤ 900000 → Dk b S → (elt (env.set i (some t)) S).wp fun y S' => (∃ z : Int, y = .int z ∧ P z) ∧ Dk (b + 1) S' ∧ Grow S S') {QL : List Tv → Sto → Prop}
    (q : ∀ (ns : List Int) (S' : Sto), ns.length = n → (∀ x ∈ ns, P x) → Dk (b + n) S' → Grow S S' → QL (ns.map Tv.int) S') : (compL [] (.v i) env (ev cf .nop).t elt (rngT 0 n) S).wp QL := by
  refine comp_drawn (b := b) (k := 1) (fun _ y => ∃ z : Int, y = .int z ∧ P z) (by rw [rngT_len']; omega) d ?_ ?_
  · intro t ht b' S' hb' d' g'
    simp only [setTg]
    exact he t S' b' hb' d'
  · intro ys S' hl hV d' g'
    obtain ⟨ns, rfl, h1, h2⟩ := comp_ints (n := n) hl rngT_len' hV
    rw [rngT_len', Nat.one_mul] at d'
    exact q ns S' h1 h2 d' g'
def MktV (n : Nat) (t : Tv) : Prop := ∃ ways : List (List Int), t = .tup (ways.map tsI) ∧ 1 ≤ ways.length ∧ ways.length ≤ 12 ∧ ∀ w ∈ ways, w.length = n ∧ ∀ x ∈ w, 0 ≤ x ∧ x ≤ 60
theorem lawMarket_ok {cf c1 c2 c3 : Nat → List Tv → M Tv} (h7 : cf 7 = runD c1 xDraw) (h8 : cf 8 = runD c2 (xPick 7)) (h87 : c2 7 = runD c3 xDraw) {S : Sto} {b n : Nat} (d : Dk b S) (hn : n ≤ 4) (hb : b + 100 ≤ 900000) :
    (runD cf xLawMarket [.cell 1, .int n] S).wp fun t S' => MktV n t ∧ Dk (b + 100) S' ∧ Grow S S' := by
  refine run_draw rfl d (by omega) ?_
  show (exs cf Fu xLawMarket.body [some (.cell 1), some (.int n), none, none, none, none] S).wp _
  unfold xLawMarket
  have hn2 : ((n : Nat) : Int).toNat = n := by omega
  rw [q_asg]
  (try simp only [List.cons_append, List.nil_append, w_var, t_var, w_int, w_str, w_bl, w_non, w_gl, w_bin, w_neg, t_cmp, w_cmp, t_chain, w_chain, t_isC, w_isC, w_isi, t_isi, t_bop1, t_bop, w_bop1, w_bop, t_nt, w_nt, w_ite, t_ite, w_nil, w_cons, a_tup, w_fz, w_mu, a_disp, a_comp, w_ofSeq, w_call, w_prim, w_ix, w_sl, w_rev, w_pop, w_popAt, w_app, e_nop, e_int, e_var, e_bin, i_seq, a_rng, rngA_int, a_rng2, rngB_int, a_zip, zipA_some, a_enum, enA_some, src_tsI, src_lsI, t_call, t_prim, tru_bl, opt_some, t_nop, List.getElem?_cons_zero, List.getElem?_cons_succ, setTg, setTgs, List.set_cons_zero, List.set_cons_succ, wp_ok, wipeE, len0, len1, len2, len3, len4, len5, len6, len7, len8, len9, len10, if_true, if_false, Bool.false_eq_true, eq_int, ne_int, gt_int, lt_int', le_int', ge_int', add_int, sub_int, abs_int, int_int, Option.map_some, src_lst, src_tup, ix_t0, ix_t1, ix_t2, ix_t3, ix_l0, ix_l1, ix_l2, is_non, and_true, true_and])
  refine pick_wp h8 h87 d (by omega) (by simp) (by simp) fun u S1 hu d1 g1 => ?_
  obtain ⟨q, rfl, q0, q1⟩ : ∃ q : Int, u = .int q ∧ 2 ≤ q ∧ q ≤ 60 := by
    simp only [List.mem_cons, List.not_mem_nil, or_false] at hu
    rcases hu with rfl | rfl | rfl | rfl | rfl <;> exact ⟨_, rfl, by decide, by decide⟩
  rw [kA_eq]
  (try simp only [List.cons_append, List.nil_append, w_var, t_var, w_int, w_str, w_bl, w_non, w_gl, w_bin, w_neg, t_cmp, w_cmp, t_chain, w_chain, t_isC, w_isC, w_isi, t_isi, t_bop1, t_bop, w_bop1, w_bop, t_nt, w_nt, w_ite, t_ite, w_nil, w_cons, a_tup, w_fz, w_mu, a_disp, a_comp, w_ofSeq, w_call, w_prim, w_ix, w_sl, w_rev, w_pop, w_popAt, w_app, e_nop, e_int, e_var, e_bin, i_seq, a_rng, rngA_int, a_rng2, rngB_int, a_zip, zipA_some, a_enum, enA_some, src_tsI, src_lsI, t_call, t_prim, tru_bl, opt_some, t_nop, List.getElem?_cons_zero, List.getElem?_cons_succ, setTg, setTgs, List.set_cons_zero, List.set_cons_succ, wp_ok, wipeE, len0, len1, len2, len3, len4, len5, len6, len7, len8, len9, len10, if_true, if_false, Bool.false_eq_true, eq_int, ne_int, gt_int, lt_int', le_int', ge_int', add_int, sub_int, abs_int, int_int, Option.map_some, src_lst, src_tup, ix_t0, ix_t1, ix_t2, ix_t3, ix_l0, ix_l1, ix_l2, is_non, and_true, true_and])
  rw [q_asg]
  (try simp only [List.cons_append, List.nil_append, w_var, t_var, w_int, w_str, w_bl, w_non, w_gl, w_bin, w_neg, t_cmp, w_cmp, t_chain, w_chain, t_isC, w_isC, w_isi, t_isi, t_bop1, t_bop, w_bop1, w_bop, t_nt, w_nt, w_ite, t_ite, w_nil, w_cons, a_tup, w_fz, w_mu, a_disp, a_comp, w_ofSeq, w_call, w_prim, w_ix, w_sl, w_rev, w_pop, w_popAt, w_app, e_nop, e_int, e_var, e_bin, i_seq, a_rng, rngA_int, a_rng2, rngB_int, a_zip, zipA_some, a_enum, enA_some, src_tsI, src_lsI, t_call, t_prim, tru_bl, opt_some, t_nop, List.getElem?_cons_zero, List.getElem?_cons_succ, setTg, setTgs, List.set_cons_zero, List.set_cons_succ, wp_ok, wipeE, len0, len1, len2, len3, len4, len5, len6, len7, len8, len9, len10, if_true, if_false, Bool.false_eq_true, eq_int, ne_int, gt_int, lt_int', le_int', ge_int', add_int, sub_int, abs_int, int_int, Option.map_some, src_lst, src_tup, ix_t0, ix_t1, ix_t2, ix_t3, ix_l0, ix_l1, ix_l2, is_non, and_true, true_and])
  refine pick_wp h8 h87 d1 (by omega) (by simp) (by simp) fun u S2 hu d2 g2 => ?_
  obtain ⟨m, rfl, m0⟩ : ∃ m : Nat, u = .int (m : Int) ∧ m ≤ 11 := by
    simp only [List.mem_cons, List.not_mem_nil, or_false] at hu
    rcases hu with rfl | rfl | rfl | rfl | rfl | rfl | rfl | rfl
    · exact ⟨0, rfl, by decide⟩
    · exact ⟨1, rfl, by decide⟩
    · exact ⟨2, rfl, by decide⟩
    · exact ⟨3, rfl, by decide⟩
    · exact ⟨4, rfl, by decide⟩
    · exact ⟨5, rfl, by decide⟩
    · exact ⟨7, rfl, by decide⟩
    · exact ⟨11, rfl, by decide⟩
  (try simp only [List.cons_append, List.nil_append, w_var, t_var, w_int, w_str, w_bl, w_non, w_gl, w_bin, w_neg, t_cmp, w_cmp, t_chain, w_chain, t_isC, w_isC, w_isi, t_isi, t_bop1, t_bop, w_bop1, w_bop, t_nt, w_nt, w_ite, t_ite, w_nil, w_cons, a_tup, w_fz, w_mu, a_disp, a_comp, w_ofSeq, w_call, w_prim, w_ix, w_sl, w_rev, w_pop, w_popAt, w_app, e_nop, e_int, e_var, e_bin, i_seq, a_rng, rngA_int, a_rng2, rngB_int, a_zip, zipA_some, a_enum, enA_some, src_tsI, src_lsI, t_call, t_prim, tru_bl, opt_some, t_nop, List.getElem?_cons_zero, List.getElem?_cons_succ, setTg, setTgs, List.set_cons_zero, List.set_cons_succ, wp_ok, wipeE, len0, len1, len2, len3, len4, len5, len6, len7, len8, len9, len10, if_true, if_false, Bool.false_eq_true, eq_int, ne_int, gt_int, lt_int', le_int', ge_int', add_int, sub_int, abs_int, int_int, Option.map_some, src_lst, src_tup, ix_t0, ix_t1, ix_t2, ix_t3, ix_l0, ix_l1, ix_l2, is_non, and_true, true_and])
  rw [kA_eq]
  (try simp only [List.cons_append, List.nil_append, w_var, t_var, w_int, w_str, w_bl, w_non, w_gl, w_bin, w_neg, t_cmp, w_cmp, t_chain, w_chain, t_isC, w_isC, w_isi, t_isi, t_bop1, t_bop, w_bop1, w_bop, t_nt, w_nt, w_ite, t_ite, w_nil, w_cons, a_tup, w_fz, w_mu, a_disp, a_comp, w_ofSeq, w_call, w_prim, w_ix, w_sl, w_rev, w_pop, w_popAt, w_app, e_nop, e_int, e_var, e_bin, i_seq, a_rng, rngA_int, a_rng2, rngB_int, a_zip, zipA_some, a_enum, enA_some, src_tsI, src_lsI, t_call, t_prim, tru_bl, opt_some, t_nop, List.getElem?_cons_zero, List.getElem?_cons_succ, setTg, setTgs, List.set_cons_zero, List.set_cons_succ, wp_ok, wipeE, len0, len1, len2, len3, len4, len5, len6, len7, len8, len9, len10, if_true, if_false, Bool.false_eq_true, eq_int, ne_int, gt_int, lt_int', le_int', ge_int', add_int, sub_int, abs_int, int_int, Option.map_some, src_lst, src_tup, ix_t0, ix_t1, ix_t2, ix_t3, ix_l0, ix_l1, ix_l2, is_non, and_true, true_and])
  rw [q_ret]
  have em : (1 : Int) + (m : Int) = ((m + 1 : Nat) : Int) := by omega
  have em2 : (((m + 1 : Nat) : Int)).toNat = m + 1 := by omega
  (try simp only [List.cons_append, List.nil_append, w_var, t_var, w_int, w_str, w_bl, w_non, w_gl, w_bin, w_neg, t_cmp, w_cmp, t_chain, w_chain, t_isC, w_isC, w_isi, t_isi, t_bop1, t_bop, w_bop1, w_bop, t_nt, w_nt, w_ite, t_ite, w_nil, w_cons, a_tup, w_fz, w_mu, a_disp, a_comp, w_ofSeq, w_call, w_prim, w_ix, w_sl, w_rev, w_pop, w_popAt, w_app, e_nop, e_int, e_var, e_bin, i_seq, a_rng, rngA_int, a_rng2, rngB_int, a_zip, zipA_some, a_enum, enA_some, src_tsI, src_lsI, t_call, t_prim, tru_bl, opt_some, t_nop, List.getElem?_cons_zero, List.getElem?_cons_succ, setTg, setTgs, List.set_cons_zero, List.set_cons_succ, wp_ok, wipeE, len0, len1, len2, len3, len4, len5, len6, len7, len8, len9, len10, if_true, if_false, Bool.false_eq_true, eq_int, ne_int, gt_int, lt_int', le_int', ge_int', add_int, sub_int, abs_int, int_int, Option.map_some, src_lst, src_tup, ix_t0, ix_t1, ix_t2, ix_t3, ix_l0, ix_l1, ix_l2, is_non, and_true, true_and, em])
  refine ⟨by omega, by rw [rngT_len']; simp [lim]; omega, ?_⟩
  rw [em2]
  refine comp_drawn (b := b + 2) (k := 4) (fun _ y => ∃ w : List Int, y = tsI w ∧ w.length = n ∧ ∀ x ∈ w, 0 ≤ x ∧ x ≤ 60) (by rw [rngT_len']; omega) d2 ?_ ?_
  · intro t ht b' S' hb' d' g'
    (try simp only [List.cons_append, List.nil_append, w_var, t_var, w_int, w_str, w_bl, w_non, w_gl, w_bin, w_neg, t_cmp, w_cmp, t_chain, w_chain, t_isC, w_isC, w_isi, t_isi, t_bop1, t_bop, w_bop1, w_bop, t_nt, w_nt, w_ite, t_ite, w_nil, w_cons, a_tup, w_fz, w_mu, a_disp, a_comp, w_ofSeq, w_call, w_prim, w_ix, w_sl, w_rev, w_pop, w_popAt, w_app, e_nop, e_int, e_var, e_bin, i_seq, a_rng, rngA_int, a_rng2, rngB_int, a_zip, zipA_some, a_enum, enA_some, src_tsI, src_lsI, t_call, t_prim, tru_bl, opt_some, t_nop, List.getElem?_cons_zero, List.getElem?_cons_succ, setTg, setTgs, List.set_cons_zero, List.set_cons_succ, wp_ok, wipeE, len0, len1, len2, len3, len4, len5, len6, len7, len8, len9, len10, if_true, if_false, Bool.false_eq_true, eq_int, ne_int, gt_int, lt_int', le_int', ge_int', add_int, sub_int, abs_int, int_int, Option.map_some, src_lst, src_tup, ix_t0, ix_t1, ix_t2, ix_t3, ix_l0, ix_l1, ix_l2, is_non, and_true, true_and])
    refine ⟨by omega, by rw [rngT_len']; simp [lim]; omega, ?_⟩
    rw [hn2]
    refine drawn_P (fun x => 0 ≤ x ∧ x ≤ 60) d' (by omega) (by omega) ?_ ?_
    · intro t S3 b3 hb3 d3
      (try simp only [List.cons_append, List.nil_append, w_var, t_var, w_int, w_str, w_bl, w_non, w_gl, w_bin, w_neg, t_cmp, w_cmp, t_chain, w_chain, t_isC, w_isC, w_isi, t_isi, t_bop1, t_bop, w_bop1, w_bop, t_nt, w_nt, w_ite, t_ite, w_nil, w_cons, a_tup, w_fz, w_mu, a_disp, a_comp, w_ofSeq, w_call, w_prim, w_ix, w_sl, w_rev, w_pop, w_popAt, w_app, e_nop, e_int, e_var, e_bin, i_seq, a_rng, rngA_int, a_rng2, rngB_int, a_zip, zipA_some, a_enum, enA_some, src_tsI, src_lsI, t_call, t_prim, tru_bl, opt_some, t_nop, List.getElem?_cons_zero, List.getElem?_cons_succ, setTg, setTgs, List.set_cons_zero, List.set_cons_succ, wp_ok, wipeE, len0, len1, len2, len3, len4, len5, len6, len7, len8, len9, len10, if_true, if_false, Bool.false_eq_true, eq_int, ne_int, gt_int, lt_int', le_int', ge_int', add_int, sub_int, abs_int, int_int, Option.map_some, src_lst, src_tup, ix_t0, ix_t1, ix_t2, ix_t3, ix_l0, ix_l1, ix_l2, is_non, and_true, true_and])
      refine draw_wp h7 d3 (by omega) (by omega) (by omega) fun w S4 w0 w1 d4 g4 => ?_
      exact ⟨⟨w, rfl, w0, by omega⟩, d4, g4⟩
    · intro ns S3 h1 h2 d3 g3
      (try simp only [List.cons_append, List.nil_append, w_var, t_var, w_int, w_str, w_bl, w_non, w_gl, w_bin, w_neg, t_cmp, w_cmp, t_chain, w_chain, t_isC, w_isC, w_isi, t_isi, t_bop1, t_bop, w_bop1, w_bop, t_nt, w_nt, w_ite, t_ite, w_nil, w_cons, a_tup, w_fz, w_mu, a_disp, a_comp, w_ofSeq, w_call, w_prim, w_ix, w_sl, w_rev, w_pop, w_popAt, w_app, e_nop, e_int, e_var, e_bin, i_seq, a_rng, rngA_int, a_rng2, rngB_int, a_zip, zipA_some, a_enum, enA_some, src_tsI, src_lsI, t_call, t_prim, tru_bl, opt_some, t_nop, List.getElem?_cons_zero, List.getElem?_cons_succ, setTg, setTgs, List.set_cons_zero, List.set_cons_succ, wp_ok, wipeE, len0, len1, len2, len3, len4, len5, len6, len7, len8, len9, len10, if_true, if_false, Bool.false_eq_true, eq_int, ne_int, gt_int, lt_int', le_int', ge_int', add_int, sub_int, abs_int, int_int, Option.map_some, src_lst, src_tup, ix_t0, ix_t1, ix_t2, ix_t3, ix_l0, ix_l1, ix_l2, is_non, and_true, true_and, tup_lst])
      exact ⟨⟨ns, rfl, h1, h2⟩, d3.mono (by omega), g3⟩
  · intro ys S3 hyl hyV d3 g3
    rw [rngT_len'] at hyl d3
    obtain ⟨ways, rfl, hw⟩ := rows_in (P := fun w => w.length = n ∧ ∀ x ∈ w, 0 ≤ x ∧ x ≤ 60) (zip_right (P := fun y => ∃ w : List Int, y = tsI w ∧ w.length = n ∧ ∀ x ∈ w, 0 ≤ x ∧ x ≤ 60) (by rw [rngT_len', hyl]) hyV)
    rw [List.length_map] at hyl
    (try simp only [List.cons_append, List.nil_append, w_var, t_var, w_int, w_str, w_bl, w_non, w_gl, w_bin, w_neg, t_cmp, w_cmp, t_chain, w_chain, t_isC, w_isC, w_isi, t_isi, t_bop1, t_bop, w_bop1, w_bop, t_nt, w_nt, w_ite, t_ite, w_nil, w_cons, a_tup, w_fz, w_mu, a_disp, a_comp, w_ofSeq, w_call, w_prim, w_ix, w_sl, w_rev, w_pop, w_popAt, w_app, e_nop, e_int, e_var, e_bin, i_seq, a_rng, rngA_int, a_rng2, rngB_int, a_zip, zipA_some, a_enum, enA_some, src_tsI, src_lsI, t_call, t_prim, tru_bl, opt_some, t_nop, List.getElem?_cons_zero, List.getElem?_cons_succ, setTg, setTgs, List.set_cons_zero, List.set_cons_succ, wp_ok, wipeE, len0, len1, len2, len3, len4, len5, len6, len7, len8, len9, len10, if_true, if_false, Bool.false_eq_true, eq_int, ne_int, gt_int, lt_int', le_int', ge_int', add_int, sub_int, abs_int, int_int, Option.map_some, src_lst, src_tup, ix_t0, ix_t1, ix_t2, ix_t3, ix_l0, ix_l1, ix_l2, is_non, and_true, true_and, tup_lst])
    exact ⟨⟨ways, rfl, by omega, by omega, hw⟩, d3.mono (by omega), g1.trans (g2.trans g3)⟩
/-! ### the least of some numbers -/
theorem least_go : ∀ (r : List Int) (a : Int), (r.foldl (fun a y => if decide (y < a) = true then y else a) a = a ∨ r.foldl (fun a y => if decide (y < a) = true then y else a) a ∈ r) ∧ r.foldl (fun a y => if decide (y < a) = true then y else a) a ≤ a ∧ ∀ x ∈ r, r.foldl (fun a y => if decide (y < a) = true then y else a) a ≤ x
  | [], a => ⟨.inl rfl, Int.le_refl _, fun x h => (List.not_mem_nil h).elim⟩
  | y :: r, a => by
    rw [List.foldl_cons]
    obtain ⟨h1, h2, h3⟩ := least_go r (if decide (y < a) = true then y else a)
    by_cases c : y < a
    · rw [if_pos (decide_eq_true c)] at h1 h2 h3 ⊢
      refine ⟨.inr ?_, by omega, fun x hx => ?_⟩
      · rcases h1 with e | e
        · rw [e]; exact List.mem_cons_self
        · exact List.mem_cons_of_mem _ e
      · rcases List.mem_cons.mp hx with e | e
        · rw [e]; exact h2
        · exact h3 x e
    · rw [if_neg (by simpa using c)] at h1 h2 h3 ⊢
      refine ⟨?_, h2, fun x hx => ?_⟩
      · rcases h1 with e | e
        · exact .inl e
        · exact .inr (List.mem_cons_of_mem _ e)
      · rcases List.mem_cons.mp hx with e | e
        · rw [e]; omega
        · exact h3 x e
theorem least_spec {ns : List Int} (h : ns ≠ []) : leastOf ns ∈ ns ∧ ∀ x ∈ ns, leastOf ns ≤ x := by
  cases ns with
  | nil => exact absurd rfl h
  | cons n r =>
    obtain ⟨h1, h2, h3⟩ := least_go r n
    refine ⟨?_, fun x hx => ?_⟩
    · rcases h1 with e | e
      · show r.foldl _ n ∈ _
        rw [e]; exact List.mem_cons_self
      · exact List.mem_cons_of_mem _ e
    · rcases List.mem_cons.mp hx with e | e
      · rw [e]; exact h2
      · exact h3 x e
theorem min_ints {S : Sto} {ns : List Int} (h : ns ≠ []) : primV .min S [.lst (ns.map Tv.int)] = some (.int (leastOf ns)) := by
  cases ns with
  | nil => exact absurd rfl h
  | cons n r => simp only [primV, seqOf, Option.bind_some, intsOf_map]
theorem cut5 {α : Type} {xs : List α} : cutL xs none (some 5) = xs.take (min 5 xs.length) := by
  unfold cutL
  rfl
def SgsV (n : Nat) (t : Tv) : Prop := ∃ ss : List Sg, t = .tup (ss.map sgT) ∧ ss.length ≤ 8 ∧ ∀ s ∈ ss, SgOk n s
theorem costs_comp {cf : Nat → List Tv → M Tv} (h30 : ∀ (S : Sto) (a b : List Int), (∀ x ∈ a, Bd 5 x) → (∀ x ∈ b, Bd 6 x) → a.length ≤ 1000 → cf 30 [tsI a, tsI b] S = .ok (.int (Qr.dot a b)) S) {n : Nat} {base extra : List Int} (hb : WsOk n base) (he : WsOk n extra) (hn : n ≤ 4) {w : List Int} (hw : w.length = n ∧ ∀ x ∈ w, 0 ≤ x ∧ x ≤ 60) (S : Sto) :
    cf 30 [tsI base, tsI w] S = .ok (.int (Qr.dot base w)) S ∧ cf 30 [tsI extra, tsI w] S = .ok (.int (Qr.dot extra w)) S ∧ Bd 13 (Qr.dot base w) ∧ Bd 13 (Qr.dot extra w) := by
  have wb : ∀ x ∈ w, Bd 6 x := fun x hx => Bd.of (m := 60) (by have := hw.2 x hx; omega) (by decide)
  have a1 := dot_le (n := 4) hb.bd hw.2 (by rw [hb.len]; omega)
  have a2 := dot_le (n := 4) he.bd hw.2 (by rw [he.len]; omega)
  exact ⟨h30 S base w (ws_bd hb) wb (by rw [hb.len]; omega), h30 S extra w (ws_bd he) wb (by rw [he.len]; omega), Bd.of (m := 4800) (by omega) (by decide), Bd.of (m := 4800) (by omega) (by decide)⟩
theorem lawSights_ok {cf c1 c2 c3 : Nat → List Tv → M Tv} (h7 : cf 7 = runD c1 xDraw) (h8 : cf 8 = runD c2 (xPick 7)) (h87 : c2 7 = runD c3 xDraw)
    (h30 : ∀ (S : Sto) (a b : List Int), (∀ x ∈ a, Bd 5 x) → (∀ x ∈ b, Bd 6 x) → a.length ≤ 1000 → cf 30 [tsI a, tsI b] S = .ok (.int (Qr.dot a b)) S)
    {n : Nat} (hn : n ≤ 4) (h29 : ∀ (S : Sto) (b : Nat), Dk b S → b + 100 ≤ 900000 → (cf 29 [.cell 1, .int n] S).wp fun t S' => MktV n t ∧ Dk (b + 100) S' ∧ Grow S S')
    {S : Sto} {b : Nat} {base extra : List Int} (d : Dk b S) (hb : WsOk n base) (he : WsOk n extra) (hbb : b + 2000 ≤ 900000) :
    (runD cf xLawSights [.cell 1, tsI base, tsI extra] S).wp fun t S' => SgsV n t ∧ Dk (b + 2000) S' ∧ Grow S S' := by
  refine run_draw rfl d (by omega) ?_
  show (exs cf Fu xLawSights.body [some (.cell 1), some (tsI base), some (tsI extra), none, none, none, none, none, none, none, none, none] S).wp _
  unfold xLawSights
  have hL := d.two
  have ln : ∀ S, primV .len S [tsI base] = some (.int (n : Int)) := fun S => by
    show some (Tv.int ((base.map Tv.int).length : Int)) = _
    rw [List.length_map, hb.len]
  rw [q_asg]
  (try simp only [List.cons_append, List.nil_append, w_var, t_var, w_int, w_str, w_bl, w_non, w_gl, w_bin, w_neg, t_cmp, w_cmp, t_chain, w_chain, t_isC, w_isC, w_isi, t_isi, t_bop1, t_bop, w_bop1, w_bop, t_nt, w_nt, w_ite, t_ite, w_nil, w_cons, a_tup, w_fz, w_mu, a_disp, a_comp, w_ofSeq, w_call, w_prim, w_ix, w_sl, w_rev, w_pop, w_popAt, w_app, e_nop, e_int, e_var, e_bin, i_seq, a_rng, rngA_int, a_rng2, rngB_int, a_zip, zipA_some, a_enum, enA_some, src_tsI, src_lsI, t_call, t_prim, tru_bl, opt_some, t_nop, List.getElem?_cons_zero, List.getElem?_cons_succ, setTg, setTgs, List.set_cons_zero, List.set_cons_succ, wp_ok, wipeE, len0, len1, len2, len3, len4, len5, len6, len7, len8, len9, len10, if_true, if_false, Bool.false_eq_true, eq_int, ne_int, gt_int, lt_int', le_int', ge_int', add_int, sub_int, abs_int, int_int, Option.map_some, src_lst, src_tup, ix_t0, ix_t1, ix_t2, ix_t3, ix_l0, ix_l1, ix_l2, is_non, and_true, true_and, ln])
  rw [kA_eq]
  (try simp only [List.cons_append, List.nil_append, w_var, t_var, w_int, w_str, w_bl, w_non, w_gl, w_bin, w_neg, t_cmp, w_cmp, t_chain, w_chain, t_isC, w_isC, w_isi, t_isi, t_bop1, t_bop, w_bop1, w_bop, t_nt, w_nt, w_ite, t_ite, w_nil, w_cons, a_tup, w_fz, w_mu, a_disp, a_comp, w_ofSeq, w_call, w_prim, w_ix, w_sl, w_rev, w_pop, w_popAt, w_app, e_nop, e_int, e_var, e_bin, i_seq, a_rng, rngA_int, a_rng2, rngB_int, a_zip, zipA_some, a_enum, enA_some, src_tsI, src_lsI, t_call, t_prim, tru_bl, opt_some, t_nop, List.getElem?_cons_zero, List.getElem?_cons_succ, setTg, setTgs, List.set_cons_zero, List.set_cons_succ, wp_ok, wipeE, len0, len1, len2, len3, len4, len5, len6, len7, len8, len9, len10, if_true, if_false, Bool.false_eq_true, eq_int, ne_int, gt_int, lt_int', le_int', ge_int', add_int, sub_int, abs_int, int_int, Option.map_some, src_lst, src_tup, ix_t0, ix_t1, ix_t2, ix_t3, ix_l0, ix_l1, ix_l2, is_non, and_true, true_and])
  rw [q_asg]
  (try simp only [List.cons_append, List.nil_append, w_var, t_var, w_int, w_str, w_bl, w_non, w_gl, w_bin, w_neg, t_cmp, w_cmp, t_chain, w_chain, t_isC, w_isC, w_isi, t_isi, t_bop1, t_bop, w_bop1, w_bop, t_nt, w_nt, w_ite, t_ite, w_nil, w_cons, a_tup, w_fz, w_mu, a_disp, a_comp, w_ofSeq, w_call, w_prim, w_ix, w_sl, w_rev, w_pop, w_popAt, w_app, e_nop, e_int, e_var, e_bin, i_seq, a_rng, rngA_int, a_rng2, rngB_int, a_zip, zipA_some, a_enum, enA_some, src_tsI, src_lsI, t_call, t_prim, tru_bl, opt_some, t_nop, List.getElem?_cons_zero, List.getElem?_cons_succ, setTg, setTgs, List.set_cons_zero, List.set_cons_succ, wp_ok, wipeE, len0, len1, len2, len3, len4, len5, len6, len7, len8, len9, len10, if_true, if_false, Bool.false_eq_true, eq_int, ne_int, gt_int, lt_int', le_int', ge_int', add_int, sub_int, abs_int, int_int, Option.map_some, src_lst, src_tup, ix_t0, ix_t1, ix_t2, ix_t3, ix_l0, ix_l1, ix_l2, is_non, and_true, true_and])
  refine draw_wp h7 d.app (by omega) (by decide) (by decide) fun p S1 p0 p1 d1 g1 => ?_
  (try simp only [List.cons_append, List.nil_append, w_var, t_var, w_int, w_str, w_bl, w_non, w_gl, w_bin, w_neg, t_cmp, w_cmp, t_chain, w_chain, t_isC, w_isC, w_isi, t_isi, t_bop1, t_bop, w_bop1, w_bop, t_nt, w_nt, w_ite, t_ite, w_nil, w_cons, a_tup, w_fz, w_mu, a_disp, a_comp, w_ofSeq, w_call, w_prim, w_ix, w_sl, w_rev, w_pop, w_popAt, w_app, e_nop, e_int, e_var, e_bin, i_seq, a_rng, rngA_int, a_rng2, rngB_int, a_zip, zipA_some, a_enum, enA_some, src_tsI, src_lsI, t_call, t_prim, tru_bl, opt_some, t_nop, List.getElem?_cons_zero, List.getElem?_cons_succ, setTg, setTgs, List.set_cons_zero, List.set_cons_succ, wp_ok, wipeE, len0, len1, len2, len3, len4, len5, len6, len7, len8, len9, len10, if_true, if_false, Bool.false_eq_true, eq_int, ne_int, gt_int, lt_int', le_int', ge_int', add_int, sub_int, abs_int, int_int, Option.map_some, src_lst, src_tup, ix_t0, ix_t1, ix_t2, ix_t3, ix_l0, ix_l1, ix_l2, is_non, and_true, true_and])
  refine draw_wp h7 d1 (by omega) (by decide) (by decide) fun q S2 q0 q1 d2 g2 => ?_
  (try simp only [List.cons_append, List.nil_append, w_var, t_var, w_int, w_str, w_bl, w_non, w_gl, w_bin, w_neg, t_cmp, w_cmp, t_chain, w_chain, t_isC, w_isC, w_isi, t_isi, t_bop1, t_bop, w_bop1, w_bop, t_nt, w_nt, w_ite, t_ite, w_nil, w_cons, a_tup, w_fz, w_mu, a_disp, a_comp, w_ofSeq, w_call, w_prim, w_ix, w_sl, w_rev, w_pop, w_popAt, w_app, e_nop, e_int, e_var, e_bin, i_seq, a_rng, rngA_int, a_rng2, rngB_int, a_zip, zipA_some, a_enum, enA_some, src_tsI, src_lsI, t_call, t_prim, tru_bl, opt_some, t_nop, List.getElem?_cons_zero, List.getElem?_cons_succ, setTg, setTgs, List.set_cons_zero, List.set_cons_succ, wp_ok, wipeE, len0, len1, len2, len3, len4, len5, len6, len7, len8, len9, len10, if_true, if_false, Bool.false_eq_true, eq_int, ne_int, gt_int, lt_int', le_int', ge_int', add_int, sub_int, abs_int, int_int, Option.map_some, src_lst, src_tup, ix_t0, ix_t1, ix_t2, ix_t3, ix_l0, ix_l1, ix_l2, is_non, and_true, true_and])
  rw [kA_eq]
  (try simp only [List.cons_append, List.nil_append, w_var, t_var, w_int, w_str, w_bl, w_non, w_gl, w_bin, w_neg, t_cmp, w_cmp, t_chain, w_chain, t_isC, w_isC, w_isi, t_isi, t_bop1, t_bop, w_bop1, w_bop, t_nt, w_nt, w_ite, t_ite, w_nil, w_cons, a_tup, w_fz, w_mu, a_disp, a_comp, w_ofSeq, w_call, w_prim, w_ix, w_sl, w_rev, w_pop, w_popAt, w_app, e_nop, e_int, e_var, e_bin, i_seq, a_rng, rngA_int, a_rng2, rngB_int, a_zip, zipA_some, a_enum, enA_some, src_tsI, src_lsI, t_call, t_prim, tru_bl, opt_some, t_nop, List.getElem?_cons_zero, List.getElem?_cons_succ, setTg, setTgs, List.set_cons_zero, List.set_cons_succ, wp_ok, wipeE, len0, len1, len2, len3, len4, len5, len6, len7, len8, len9, len10, if_true, if_false, Bool.false_eq_true, eq_int, ne_int, gt_int, lt_int', le_int', ge_int', add_int, sub_int, abs_int, int_int, Option.map_some, src_lst, src_tup, ix_t0, ix_t1, ix_t2, ix_t3, ix_l0, ix_l1, ix_l2, is_non, and_true, true_and])
  rw [q_for]
  (try simp only [List.cons_append, List.nil_append, w_var, t_var, w_int, w_str, w_bl, w_non, w_gl, w_bin, w_neg, t_cmp, w_cmp, t_chain, w_chain, t_isC, w_isC, w_isi, t_isi, t_bop1, t_bop, w_bop1, w_bop, t_nt, w_nt, w_ite, t_ite, w_nil, w_cons, a_tup, w_fz, w_mu, a_disp, a_comp, w_ofSeq, w_call, w_prim, w_ix, w_sl, w_rev, w_pop, w_popAt, w_app, e_nop, e_int, e_var, e_bin, i_seq, a_rng, rngA_int, a_rng2, rngB_int, a_zip, zipA_some, a_enum, enA_some, src_tsI, src_lsI, t_call, t_prim, tru_bl, opt_some, t_nop, List.getElem?_cons_zero, List.getElem?_cons_succ, setTg, setTgs, List.set_cons_zero, List.set_cons_succ, wp_ok, wipeE, len0, len1, len2, len3, len4, len5, len6, len7, len8, len9, len10, if_true, if_false, Bool.false_eq_true, eq_int, ne_int, gt_int, lt_int', le_int', ge_int', add_int, sub_int, abs_int, int_int, Option.map_some, src_lst, src_tup, ix_t0, ix_t1, ix_t2, ix_t3, ix_l0, ix_l1, ix_l2, is_non, and_true, true_and])
  refine pick_wp h8 h87 d2 (by omega) (by simp) (by simp) fun u S3 hu d3 g3 => ?_
  obtain ⟨m, rfl, m0⟩ : ∃ m : Nat, u = .int (m : Int) ∧ m ≤ 8 := by
    simp only [List.mem_cons, List.not_mem_nil, or_false] at hu
    rcases hu with rfl | rfl | rfl | rfl | rfl | rfl
    · exact ⟨0, rfl, by decide⟩
    · exact ⟨1, rfl, by decide⟩
    · exact ⟨2, rfl, by decide⟩
    · exact ⟨3, rfl, by decide⟩
    · exact ⟨5, rfl, by decide⟩
    · exact ⟨8, rfl, by decide⟩
  have o3 : S3[S.length]? = some (.lst []) := g3.own (g2.own (g1.own end_at hL) hL) hL
  have g0 : Grow S S3 := Grow.app.trans (g1.trans (g2.trans g3))
  have em2 : ((m : Nat) : Int).toNat = m := by omega
  (try simp only [List.cons_append, List.nil_append, w_var, t_var, w_int, w_str, w_bl, w_non, w_gl, w_bin, w_neg, t_cmp, w_cmp, t_chain, w_chain, t_isC, w_isC, w_isi, t_isi, t_bop1, t_bop, w_bop1, w_bop, t_nt, w_nt, w_ite, t_ite, w_nil, w_cons, a_tup, w_fz, w_mu, a_disp, a_comp, w_ofSeq, w_call, w_prim, w_ix, w_sl, w_rev, w_pop, w_popAt, w_app, e_nop, e_int, e_var, e_bin, i_seq, a_rng, rngA_int, a_rng2, rngB_int, a_zip, zipA_some, a_enum, enA_some, src_tsI, src_lsI, t_call, t_prim, tru_bl, opt_some, t_nop, List.getElem?_cons_zero, List.getElem?_cons_succ, setTg, setTgs, List.set_cons_zero, List.set_cons_succ, wp_ok, wipeE, len0, len1, len2, len3, len4, len5, len6, len7, len8, len9, len10, if_true, if_false, Bool.false_eq_true, eq_int, ne_int, gt_int, lt_int', le_int', ge_int', add_int, sub_int, abs_int, int_int, Option.map_some, src_lst, src_tup, ix_t0, ix_t1, ix_t2, ix_t3, ix_l0, ix_l1, ix_l2, is_non, and_true, true_and])
  refine ⟨by omega, ?_⟩
  rw [kF_eq, em2, rngT_map]
  refine for_on (fun dn r env S' => dn.length + r.length = m ∧ Dk (b + 3 + 110 * dn.length) S' ∧ Grow S S' ∧ ∃ (j4 j7 j8 j9 j10 j11 : Option Tv) (F : List Sg), env = [some (.cell 1), some (tsI base), some (tsI extra), some (.tup [.int p, .int (1 + q)]), j4, some (.cell S.length), some (.int (n : Int)), j7, j8, j9, j10, j11] ∧ S'[S.length]? = some (.lst (F.map sgT)) ∧ F.length = dn.length ∧ ∀ s ∈ F, SgOk n s) (fun _ _ _ _ _ => rfl) ?_ ?_ ⟨by simp, by simpa using d3, g0, none, none, none, none, none, none, [], rfl, o3, rfl, fun s h => (List.not_mem_nil h).elim⟩
  · rintro dn i r env S' hx ⟨hlen, d', g', j4, j7, j8, j9, j10, j11, F, rfl, oF, lF, hF⟩
    rw [List.length_cons] at hlen
    (try simp only [List.cons_append, List.nil_append, w_var, t_var, w_int, w_str, w_bl, w_non, w_gl, w_bin, w_neg, t_cmp, w_cmp, t_chain, w_chain, t_isC, w_isC, w_isi, t_isi, t_bop1, t_bop, w_bop1, w_bop, t_nt, w_nt, w_ite, t_ite, w_nil, w_cons, a_tup, w_fz, w_mu, a_disp, a_comp, w_ofSeq, w_call, w_prim, w_ix, w_sl, w_rev, w_pop, w_popAt, w_app, e_nop, e_int, e_var, e_bin, i_seq, a_rng, rngA_int, a_rng2, rngB_int, a_zip, zipA_some, a_enum, enA_some, src_tsI, src_lsI, t_call, t_prim, tru_bl, opt_some, t_nop, List.getElem?_cons_zero, List.getElem?_cons_succ, setTg, setTgs, List.set_cons_zero, List.set_cons_succ, wp_ok, wipeE, len0, len1, len2, len3, len4, len5, len6, len7, len8, len9, len10, if_true, if_false, Bool.false_eq_true, eq_int, ne_int, gt_int, lt_int', le_int', ge_int', add_int, sub_int, abs_int, int_int, Option.map_some, src_lst, src_tup, ix_t0, ix_t1, ix_t2, ix_t3, ix_l0, ix_l1, ix_l2, is_non, and_true, true_and])
    rw [q_asg]
    (try simp only [List.cons_append, List.nil_append, w_var, t_var, w_int, w_str, w_bl, w_non, w_gl, w_bin, w_neg, t_cmp, w_cmp, t_chain, w_chain, t_isC, w_isC, w_isi, t_isi, t_bop1, t_bop, w_bop1, w_bop, t_nt, w_nt, w_ite, t_ite, w_nil, w_cons, a_tup, w_fz, w_mu, a_disp, a_comp, w_ofSeq, w_call, w_prim, w_ix, w_sl, w_rev, w_pop, w_popAt, w_app, e_nop, e_int, e_var, e_bin, i_seq, a_rng, rngA_int, a_rng2, rngB_int, a_zip, zipA_some, a_enum, enA_some, src_tsI, src_lsI, t_call, t_prim, tru_bl, opt_some, t_nop, List.getElem?_cons_zero, List.getElem?_cons_succ, setTg, setTgs, List.set_cons_zero, List.set_cons_succ, wp_ok, wipeE, len0, len1, len2, len3, len4, len5, len6, len7, len8, len9, len10, if_true, if_false, Bool.false_eq_true, eq_int, ne_int, gt_int, lt_int', le_int', ge_int', add_int, sub_int, abs_int, int_int, Option.map_some, src_lst, src_tup, ix_t0, ix_t1, ix_t2, ix_t3, ix_l0, ix_l1, ix_l2, is_non, and_true, true_and])
    refine wp_mono (h29 S' _ d' (by omega)) ?_
    rintro t S4 ⟨⟨ways0, rfl, wl, wl2, hw0⟩, d4, g4⟩
    have o4 := g4.own oF hL
    have sl : ∀ S, slV S (.tup (ways0.map tsI)) none (some 5) = some (.tup ((ways0.take (min 5 ways0.length)).map tsI)) := fun S => by
      show some (Tv.tup (cutL (ways0.map tsI) none (some 5))) = _
      rw [cut5, List.length_map, List.map_take]
    generalize hwy : ways0.take (min 5 ways0.length) = ways at sl
    have hl5 : 1 ≤ ways.length ∧ ways.length ≤ 5 := by rw [← hwy, List.length_take]; omega
    have hw : ∀ w ∈ ways, w.length = n ∧ ∀ x ∈ w, 0 ≤ x ∧ x ≤ 60 := fun w h => hw0 w (by rw [← hwy] at h; exact List.mem_of_mem_take h)
    (try simp only [List.cons_append, List.nil_append, w_var, t_var, w_int, w_str, w_bl, w_non, w_gl, w_bin, w_neg, t_cmp, w_cmp, t_chain, w_chain, t_isC, w_isC, w_isi, t_isi, t_bop1, t_bop, w_bop1, w_bop, t_nt, w_nt, w_ite, t_ite, w_nil, w_cons, a_tup, w_fz, w_mu, a_disp, a_comp, w_ofSeq, w_call, w_prim, w_ix, w_sl, w_rev, w_pop, w_popAt, w_app, e_nop, e_int, e_var, e_bin, i_seq, a_rng, rngA_int, a_rng2, rngB_int, a_zip, zipA_some, a_enum, enA_some, src_tsI, src_lsI, t_call, t_prim, tru_bl, opt_some, t_nop, List.getElem?_cons_zero, List.getElem?_cons_succ, setTg, setTgs, List.set_cons_zero, List.set_cons_succ, wp_ok, wipeE, len0, len1, len2, len3, len4, len5, len6, len7, len8, len9, len10, if_true, if_false, Bool.false_eq_true, eq_int, ne_int, gt_int, lt_int', le_int', ge_int', add_int, sub_int, abs_int, int_int, Option.map_some, src_lst, src_tup, ix_t0, ix_t1, ix_t2, ix_t3, ix_l0, ix_l1, ix_l2, is_non, and_true, true_and, sl])
    rw [kA_eq]
    (try simp only [List.cons_append, List.nil_append, w_var, t_var, w_int, w_str, w_bl, w_non, w_gl, w_bin, w_neg, t_cmp, w_cmp, t_chain, w_chain, t_isC, w_isC, w_isi, t_isi, t_bop1, t_bop, w_bop1, w_bop, t_nt, w_nt, w_ite, t_ite, w_nil, w_cons, a_tup, w_fz, w_mu, a_disp, a_comp, w_ofSeq, w_call, w_prim, w_ix, w_sl, w_rev, w_pop, w_popAt, w_app, e_nop, e_int, e_var, e_bin, i_seq, a_rng, rngA_int, a_rng2, rngB_int, a_zip, zipA_some, a_enum, enA_some, src_tsI, src_lsI, t_call, t_prim, tru_bl, opt_some, t_nop, List.getElem?_cons_zero, List.getElem?_cons_succ, setTg, setTgs, List.set_cons_zero, List.set_cons_succ, wp_ok, wipeE, len0, len1, len2, len3, len4, len5, len6, len7, len8, len9, len10, if_true, if_false, Bool.false_eq_true, eq_int, ne_int, gt_int, lt_int', le_int', ge_int', add_int, sub_int, abs_int, int_int, Option.map_some, src_lst, src_tup, ix_t0, ix_t1, ix_t2, ix_t3, ix_l0, ix_l1, ix_l2, is_non, and_true, true_and])
    rw [q_asg]
    have l1 : ((ways.map tsI).length ≤ lim) = True := len_map (by omega)
    have bp : Bd 5 p := Bd.of (m := 12) (by omega) (by decide)
    have bq : Bd 5 (1 + q) := Bd.of (m := 12) (by omega) (by decide)
    (try simp only [List.cons_append, List.nil_append, w_var, t_var, w_int, w_str, w_bl, w_non, w_gl, w_bin, w_neg, t_cmp, w_cmp, t_chain, w_chain, t_isC, w_isC, w_isi, t_isi, t_bop1, t_bop, w_bop1, w_bop, t_nt, w_nt, w_ite, t_ite, w_nil, w_cons, a_tup, w_fz, w_mu, a_disp, a_comp, w_ofSeq, w_call, w_prim, w_ix, w_sl, w_rev, w_pop, w_popAt, w_app, e_nop, e_int, e_var, e_bin, i_seq, a_rng, rngA_int, a_rng2, rngB_int, a_zip, zipA_some, a_enum, enA_some, src_tsI, src_lsI, t_call, t_prim, tru_bl, opt_some, t_nop, List.getElem?_cons_zero, List.getElem?_cons_succ, setTg, setTgs, List.set_cons_zero, List.set_cons_succ, wp_ok, wipeE, len0, len1, len2, len3, len4, len5, len6, len7, len8, len9, len10, if_true, if_false, Bool.false_eq_true, eq_int, ne_int, gt_int, lt_int', le_int', ge_int', add_int, sub_int, abs_int, int_int, Option.map_some, src_lst, src_tup, ix_t0, ix_t1, ix_t2, ix_t3, ix_l0, ix_l1, ix_l2, is_non, and_true, true_and, l1])
    rw [comp_all (fun w : List Int => Tv.int (Qr.dot base w * (1 + q) + Qr.dot extra w * p)) rfl (fun w hw1 => by
      obtain ⟨k1, k2, k3, k4⟩ := costs_comp h30 hb he hn (hw w hw1) S4
      (try simp only [List.cons_append, List.nil_append, w_var, t_var, w_int, w_str, w_bl, w_non, w_gl, w_bin, w_neg, t_cmp, w_cmp, t_chain, w_chain, t_isC, w_isC, w_isi, t_isi, t_bop1, t_bop, w_bop1, w_bop, t_nt, w_nt, w_ite, t_ite, w_nil, w_cons, a_tup, w_fz, w_mu, a_disp, a_comp, w_ofSeq, w_call, w_prim, w_ix, w_sl, w_rev, w_pop, w_popAt, w_app, e_nop, e_int, e_var, e_bin, i_seq, a_rng, rngA_int, a_rng2, rngB_int, a_zip, zipA_some, a_enum, enA_some, src_tsI, src_lsI, t_call, t_prim, tru_bl, opt_some, t_nop, List.getElem?_cons_zero, List.getElem?_cons_succ, setTg, setTgs, List.set_cons_zero, List.set_cons_succ, wp_ok, wipeE, len0, len1, len2, len3, len4, len5, len6, len7, len8, len9, len10, if_true, if_false, Bool.false_eq_true, eq_int, ne_int, gt_int, lt_int', le_int', ge_int', add_int, sub_int, abs_int, int_int, Option.map_some, src_lst, src_tup, ix_t0, ix_t1, ix_t2, ix_t3, ix_l0, ix_l1, ix_l2, is_non, and_true, true_and, k1, k2, mul_bd (S := S4) k3 bq (by decide), mul_bd (S := S4) k4 bp (by decide)]))]
    have ec : (ways.map fun w : List Int => Tv.int (Qr.dot base w * (1 + q) + Qr.dot extra w * p)) = (ways.map fun w : List Int => Qr.dot base w * (1 + q) + Qr.dot extra w * p).map Tv.int := by rw [List.map_map]; rfl
    rw [ec]
    generalize hcs : (ways.map fun w : List Int => Qr.dot base w * (1 + q) + Qr.dot extra w * p) = cs
    have lc : cs.length = ways.length := by rw [← hcs, List.length_map]
    have nc : cs ≠ [] := fun z => by rw [z] at lc; simp at lc; omega
    (try simp only [List.cons_append, List.nil_append, w_var, t_var, w_int, w_str, w_bl, w_non, w_gl, w_bin, w_neg, t_cmp, w_cmp, t_chain, w_chain, t_isC, w_isC, w_isi, t_isi, t_bop1, t_bop, w_bop1, w_bop, t_nt, w_nt, w_ite, t_ite, w_nil, w_cons, a_tup, w_fz, w_mu, a_disp, a_comp, w_ofSeq, w_call, w_prim, w_ix, w_sl, w_rev, w_pop, w_popAt, w_app, e_nop, e_int, e_var, e_bin, i_seq, a_rng, rngA_int, a_rng2, rngB_int, a_zip, zipA_some, a_enum, enA_some, src_tsI, src_lsI, t_call, t_prim, tru_bl, opt_some, t_nop, List.getElem?_cons_zero, List.getElem?_cons_succ, setTg, setTgs, List.set_cons_zero, List.set_cons_succ, wp_ok, wipeE, len0, len1, len2, len3, len4, len5, len6, len7, len8, len9, len10, if_true, if_false, Bool.false_eq_true, eq_int, ne_int, gt_int, lt_int', le_int', ge_int', add_int, sub_int, abs_int, int_int, Option.map_some, src_lst, src_tup, ix_t0, ix_t1, ix_t2, ix_t3, ix_l0, ix_l1, ix_l2, is_non, and_true, true_and])
    rw [kA_eq]
    (try simp only [List.cons_append, List.nil_append, w_var, t_var, w_int, w_str, w_bl, w_non, w_gl, w_bin, w_neg, t_cmp, w_cmp, t_chain, w_chain, t_isC, w_isC, w_isi, t_isi, t_bop1, t_bop, w_bop1, w_bop, t_nt, w_nt, w_ite, t_ite, w_nil, w_cons, a_tup, w_fz, w_mu, a_disp, a_comp, w_ofSeq, w_call, w_prim, w_ix, w_sl, w_rev, w_pop, w_popAt, w_app, e_nop, e_int, e_var, e_bin, i_seq, a_rng, rngA_int, a_rng2, rngB_int, a_zip, zipA_some, a_enum, enA_some, src_tsI, src_lsI, t_call, t_prim, tru_bl, opt_some, t_nop, List.getElem?_cons_zero, List.getElem?_cons_succ, setTg, setTgs, List.set_cons_zero, List.set_cons_succ, wp_ok, wipeE, len0, len1, len2, len3, len4, len5, len6, len7, len8, len9, len10, if_true, if_false, Bool.false_eq_true, eq_int, ne_int, gt_int, lt_int', le_int', ge_int', add_int, sub_int, abs_int, int_int, Option.map_some, src_lst, src_tup, ix_t0, ix_t1, ix_t2, ix_t3, ix_l0, ix_l1, ix_l2, is_non, and_true, true_and])
    rw [q_asg]
    have lw : ∀ S, primV .len S [.tup (ways.map tsI)] = some (.int (ways.length : Int)) := fun S => by
      show some (Tv.int ((ways.map tsI).length : Int)) = _
      rw [List.length_map]
    have ew2 : ((ways.length : Nat) : Int).toNat = ways.length := by omega
    (try simp only [List.cons_append, List.nil_append, w_var, t_var, w_int, w_str, w_bl, w_non, w_gl, w_bin, w_neg, t_cmp, w_cmp, t_chain, w_chain, t_isC, w_isC, w_isi, t_isi, t_bop1, t_bop, w_bop1, w_bop, t_nt, w_nt, w_ite, t_ite, w_nil, w_cons, a_tup, w_fz, w_mu, a_disp, a_comp, w_ofSeq, w_call, w_prim, w_ix, w_sl, w_rev, w_pop, w_popAt, w_app, e_nop, e_int, e_var, e_bin, i_seq, a_rng, rngA_int, a_rng2, rngB_int, a_zip, zipA_some, a_enum, enA_some, src_tsI, src_lsI, t_call, t_prim, tru_bl, opt_some, t_nop, List.getElem?_cons_zero, List.getElem?_cons_succ, setTg, setTgs, List.set_cons_zero, List.set_cons_succ, wp_ok, wipeE, len0, len1, len2, len3, len4, len5, len6, len7, len8, len9, len10, if_true, if_false, Bool.false_eq_true, eq_int, ne_int, gt_int, lt_int', le_int', ge_int', add_int, sub_int, abs_int, int_int, Option.map_some, src_lst, src_tup, ix_t0, ix_t1, ix_t2, ix_t3, ix_l0, ix_l1, ix_l2, is_non, and_true, true_and, lw])
    refine ⟨by omega, by rw [rngT_len']; simp [lim]; omega, ?_⟩
    rw [ew2, rngT_map, comp_on (fun p : Nat => Qr.at' cs p == leastOf cs) (fun p : Nat => Tv.int (p : Int)) rfl (fun p hp => by
      have ip : ∀ S, ixV S (.lst (cs.map Tv.int)) (.int (p : Int)) = some (.int (Qr.at' cs p)) := fun S => ix_atl (S := S) (by rw [lc]; exact List.mem_range.mp hp)
      (try simp only [List.cons_append, List.nil_append, w_var, t_var, w_int, w_str, w_bl, w_non, w_gl, w_bin, w_neg, t_cmp, w_cmp, t_chain, w_chain, t_isC, w_isC, w_isi, t_isi, t_bop1, t_bop, w_bop1, w_bop, t_nt, w_nt, w_ite, t_ite, w_nil, w_cons, a_tup, w_fz, w_mu, a_disp, a_comp, w_ofSeq, w_call, w_prim, w_ix, w_sl, w_rev, w_pop, w_popAt, w_app, e_nop, e_int, e_var, e_bin, i_seq, a_rng, rngA_int, a_rng2, rngB_int, a_zip, zipA_some, a_enum, enA_some, src_tsI, src_lsI, t_call, t_prim, tru_bl, opt_some, t_nop, List.getElem?_cons_zero, List.getElem?_cons_succ, setTg, setTgs, List.set_cons_zero, List.set_cons_succ, wp_ok, wipeE, len0, len1, len2, len3, len4, len5, len6, len7, len8, len9, len10, if_true, if_false, Bool.false_eq_true, eq_int, ne_int, gt_int, lt_int', le_int', ge_int', add_int, sub_int, abs_int, int_int, Option.map_some, src_lst, src_tup, ix_t0, ix_t1, ix_t2, ix_t3, ix_l0, ix_l1, ix_l2, is_non, and_true, true_and, Int.zero_add, ip, min_ints nc])
      split <;> trivial)]
    generalize hls : (List.range ways.length).filter (fun p : Nat => Qr.at' cs p == leastOf cs) = ls
    have lsm : ∀ p ∈ ls, p < ways.length := fun p hp => by rw [← hls] at hp; exact List.mem_range.mp (List.mem_filter.mp hp).1
    have lne : ls ≠ [] := by
      obtain ⟨k, hk, e⟩ := List.mem_iff_getElem.mp (least_spec nc).1
      have : k ∈ ls := by
        rw [← hls]
        refine List.mem_filter.mpr ⟨List.mem_range.mpr (by omega), ?_⟩
        unfold Qr.at'
        rw [List.getD_eq_getElem?_getD, List.getElem?_eq_getElem hk]
        simpa using e
      exact fun z => by rw [z] at this; cases this
    have lsl : ls.length ≤ 5 := by
      rw [← hls]
      have := List.length_filter_le (fun p : Nat => Qr.at' cs p == leastOf cs) (List.range ways.length)
      rw [List.length_range] at this
      omega
    (try simp only [List.cons_append, List.nil_append, w_var, t_var, w_int, w_str, w_bl, w_non, w_gl, w_bin, w_neg, t_cmp, w_cmp, t_chain, w_chain, t_isC, w_isC, w_isi, t_isi, t_bop1, t_bop, w_bop1, w_bop, t_nt, w_nt, w_ite, t_ite, w_nil, w_cons, a_tup, w_fz, w_mu, a_disp, a_comp, w_ofSeq, w_call, w_prim, w_ix, w_sl, w_rev, w_pop, w_popAt, w_app, e_nop, e_int, e_var, e_bin, i_seq, a_rng, rngA_int, a_rng2, rngB_int, a_zip, zipA_some, a_enum, enA_some, src_tsI, src_lsI, t_call, t_prim, tru_bl, opt_some, t_nop, List.getElem?_cons_zero, List.getElem?_cons_succ, setTg, setTgs, List.set_cons_zero, List.set_cons_succ, wp_ok, wipeE, len0, len1, len2, len3, len4, len5, len6, len7, len8, len9, len10, if_true, if_false, Bool.false_eq_true, eq_int, ne_int, gt_int, lt_int', le_int', ge_int', add_int, sub_int, abs_int, int_int, Option.map_some, src_lst, src_tup, ix_t0, ix_t1, ix_t2, ix_t3, ix_l0, ix_l1, ix_l2, is_non, and_true, true_and])
    rw [kA_eq]
    (try simp only [List.cons_append, List.nil_append, w_var, t_var, w_int, w_str, w_bl, w_non, w_gl, w_bin, w_neg, t_cmp, w_cmp, t_chain, w_chain, t_isC, w_isC, w_isi, t_isi, t_bop1, t_bop, w_bop1, w_bop, t_nt, w_nt, w_ite, t_ite, w_nil, w_cons, a_tup, w_fz, w_mu, a_disp, a_comp, w_ofSeq, w_call, w_prim, w_ix, w_sl, w_rev, w_pop, w_popAt, w_app, e_nop, e_int, e_var, e_bin, i_seq, a_rng, rngA_int, a_rng2, rngB_int, a_zip, zipA_some, a_enum, enA_some, src_tsI, src_lsI, t_call, t_prim, tru_bl, opt_some, t_nop, List.getElem?_cons_zero, List.getElem?_cons_succ, setTg, setTgs, List.set_cons_zero, List.set_cons_succ, wp_ok, wipeE, len0, len1, len2, len3, len4, len5, len6, len7, len8, len9, len10, if_true, if_false, Bool.false_eq_true, eq_int, ne_int, gt_int, lt_int', le_int', ge_int', add_int, sub_int, abs_int, int_int, Option.map_some, src_lst, src_tup, ix_t0, ix_t1, ix_t2, ix_t3, ix_l0, ix_l1, ix_l2, is_non, and_true, true_and])
    rw [q_asg]
    (try simp only [List.cons_append, List.nil_append, w_var, t_var, w_int, w_str, w_bl, w_non, w_gl, w_bin, w_neg, t_cmp, w_cmp, t_chain, w_chain, t_isC, w_isC, w_isi, t_isi, t_bop1, t_bop, w_bop1, w_bop, t_nt, w_nt, w_ite, t_ite, w_nil, w_cons, a_tup, w_fz, w_mu, a_disp, a_comp, w_ofSeq, w_call, w_prim, w_ix, w_sl, w_rev, w_pop, w_popAt, w_app, e_nop, e_int, e_var, e_bin, i_seq, a_rng, rngA_int, a_rng2, rngB_int, a_zip, zipA_some, a_enum, enA_some, src_tsI, src_lsI, t_call, t_prim, tru_bl, opt_some, t_nop, List.getElem?_cons_zero, List.getElem?_cons_succ, setTg, setTgs, List.set_cons_zero, List.set_cons_succ, wp_ok, wipeE, len0, len1, len2, len3, len4, len5, len6, len7, len8, len9, len10, if_true, if_false, Bool.false_eq_true, eq_int, ne_int, gt_int, lt_int', le_int', ge_int', add_int, sub_int, abs_int, int_int, Option.map_some, src_lst, src_tup, ix_t0, ix_t1, ix_t2, ix_t3, ix_l0, ix_l1, ix_l2, is_non, and_true, true_and])
    refine draw_wp h7 d4 (by omega) (by decide) (by decide) fun v S5 v0 v1 d5 g5 => ?_
    (try simp only [List.cons_append, List.nil_append, w_var, t_var, w_int, w_str, w_bl, w_non, w_gl, w_bin, w_neg, t_cmp, w_cmp, t_chain, w_chain, t_isC, w_isC, w_isi, t_isi, t_bop1, t_bop, w_bop1, w_bop, t_nt, w_nt, w_ite, t_ite, w_nil, w_cons, a_tup, w_fz, w_mu, a_disp, a_comp, w_ofSeq, w_call, w_prim, w_ix, w_sl, w_rev, w_pop, w_popAt, w_app, e_nop, e_int, e_var, e_bin, i_seq, a_rng, rngA_int, a_rng2, rngB_int, a_zip, zipA_some, a_enum, enA_some, src_tsI, src_lsI, t_call, t_prim, tru_bl, opt_some, t_nop, List.getElem?_cons_zero, List.getElem?_cons_succ, setTg, setTgs, List.set_cons_zero, List.set_cons_succ, wp_ok, wipeE, len0, len1, len2, len3, len4, len5, len6, len7, len8, len9, len10, if_true, if_false, Bool.false_eq_true, eq_int, ne_int, gt_int, lt_int', le_int', ge_int', add_int, sub_int, abs_int, int_int, Option.map_some, src_lst, src_tup, ix_t0, ix_t1, ix_t2, ix_t3, ix_l0, ix_l1, ix_l2, is_non, and_true, true_and])
    have fin : ∀ (a : Nat) (S6 : Sto) (b6 : Nat), a < ways.length → b6 ≤ b + 3 + 110 * dn.length + 100 + 2 → Dk b6 S6 → Grow S S6 → S6[S.length]? = some (.lst (F.map sgT)) → ∀ (D : Po) (env : Env) (k4 k8 k9 k11 : Option Tv),
        (∀ (env : Env) (S : Sto) , (∃ S0 : Sto, S0 = S) → True) →
        (∀ (e : Env) (S' : Sto), ((dn ++ [i]).length + r.length = m ∧ Dk (b + 3 + 110 * (dn ++ [i]).length) S' ∧ Grow S S' ∧ ∃ (j4 j7 j8 j9 j10 j11 : Option Tv) (F : List Sg), e = [some (.cell 1), some (tsI base), some (tsI extra), some (.tup [.int p, .int (1 + q)]), j4, some (.cell S.length), some (.int (n : Int)), j7, j8, j9, j10, j11] ∧ S'[S.length]? = some (.lst (F.map sgT)) ∧ F.length = (dn ++ [i]).length ∧ ∀ s ∈ F, SgOk n s) → D.nx e S') →
        kA cf Fu (.v 10) [.drop (.app (.var 5) (.tup [(.var 7), (.var 10)]))] [some (.cell 1), some (tsI base), some (tsI extra), some (.tup [.int p, .int (1 + q)]), k4, some (.cell S.length), some (.int (n : Int)), some (.tup (ways.map tsI)), k8, k9, j10, k11] D (.int (a : Int)) S6 := by
      intro a S6 b6 ha hb6 d6 g6 o6 D env k4 k8 k9 k11 _ hD
      rw [kA_eq]
      (try simp only [List.cons_append, List.nil_append, w_var, t_var, w_int, w_str, w_bl, w_non, w_gl, w_bin, w_neg, t_cmp, w_cmp, t_chain, w_chain, t_isC, w_isC, w_isi, t_isi, t_bop1, t_bop, w_bop1, w_bop, t_nt, w_nt, w_ite, t_ite, w_nil, w_cons, a_tup, w_fz, w_mu, a_disp, a_comp, w_ofSeq, w_call, w_prim, w_ix, w_sl, w_rev, w_pop, w_popAt, w_app, e_nop, e_int, e_var, e_bin, i_seq, a_rng, rngA_int, a_rng2, rngB_int, a_zip, zipA_some, a_enum, enA_some, src_tsI, src_lsI, t_call, t_prim, tru_bl, opt_some, t_nop, List.getElem?_cons_zero, List.getElem?_cons_succ, setTg, setTgs, List.set_cons_zero, List.set_cons_succ, wp_ok, wipeE, len0, len1, len2, len3, len4, len5, len6, len7, len8, len9, len10, if_true, if_false, Bool.false_eq_true, eq_int, ne_int, gt_int, lt_int', le_int', ge_int', add_int, sub_int, abs_int, int_int, Option.map_some, src_lst, src_tup, ix_t0, ix_t1, ix_t2, ix_t3, ix_l0, ix_l1, ix_l2, is_non, and_true, true_and])
      rw [q_drop]
      (try simp only [List.cons_append, List.nil_append, w_var, t_var, w_int, w_str, w_bl, w_non, w_gl, w_bin, w_neg, t_cmp, w_cmp, t_chain, w_chain, t_isC, w_isC, w_isi, t_isi, t_bop1, t_bop, w_bop1, w_bop, t_nt, w_nt, w_ite, t_ite, w_nil, w_cons, a_tup, w_fz, w_mu, a_disp, a_comp, w_ofSeq, w_call, w_prim, w_ix, w_sl, w_rev, w_pop, w_popAt, w_app, e_nop, e_int, e_var, e_bin, i_seq, a_rng, rngA_int, a_rng2, rngB_int, a_zip, zipA_some, a_enum, enA_some, src_tsI, src_lsI, t_call, t_prim, tru_bl, opt_some, t_nop, List.getElem?_cons_zero, List.getElem?_cons_succ, setTg, setTgs, List.set_cons_zero, List.set_cons_succ, wp_ok, wipeE, len0, len1, len2, len3, len4, len5, len6, len7, len8, len9, len10, if_true, if_false, Bool.false_eq_true, eq_int, ne_int, gt_int, lt_int', le_int', ge_int', add_int, sub_int, abs_int, int_int, Option.map_some, src_lst, src_tup, ix_t0, ix_t1, ix_t2, ix_t3, ix_l0, ix_l1, ix_l2, is_non, and_true, true_and, need_at o6, app_at o6 (y := sgT (ways, a)) (by rw [List.length_map]; omega)])
      rw [show Tv.tup [Tv.tup (ways.map tsI), Tv.int (a : Int)] = sgT (ways, a) from rfl, app_at o6 (y := sgT (ways, a)) (by rw [List.length_map]; omega), kD_eq, exs_nil]
      refine hD _ _ ⟨by rw [List.length_append, List.length_singleton]; omega, (d6.set hL).mono (by rw [List.length_append, List.length_singleton]; omega), g6.set (Nat.le_refl _), _, _, _, _, _, _, F ++ [(ways, a)], rfl, ?_, by rw [List.length_append, List.length_append, lF]; rfl, fun s hs => ?_⟩
      · rw [set_at o6, List.map_append]
        rfl
      · rcases List.mem_append.mp hs with e | e
        · exact hF s e
        · rw [List.mem_singleton.mp e]
          exact ⟨ha, by show ways.length ≤ 12; omega, hw⟩
    have o5 := g5.own o4 hL
    by_cases hv : 0 < v
    · simp only [decide_eq_true hv, if_true]
      (try simp only [List.cons_append, List.nil_append, w_var, t_var, w_int, w_str, w_bl, w_non, w_gl, w_bin, w_neg, t_cmp, w_cmp, t_chain, w_chain, t_isC, w_isC, w_isi, t_isi, t_bop1, t_bop, w_bop1, w_bop, t_nt, w_nt, w_ite, t_ite, w_nil, w_cons, a_tup, w_fz, w_mu, a_disp, a_comp, w_ofSeq, w_call, w_prim, w_ix, w_sl, w_rev, w_pop, w_popAt, w_app, e_nop, e_int, e_var, e_bin, i_seq, a_rng, rngA_int, a_rng2, rngB_int, a_zip, zipA_some, a_enum, enA_some, src_tsI, src_lsI, t_call, t_prim, tru_bl, opt_some, t_nop, List.getElem?_cons_zero, List.getElem?_cons_succ, setTg, setTgs, List.set_cons_zero, List.set_cons_succ, wp_ok, wipeE, len0, len1, len2, len3, len4, len5, len6, len7, len8, len9, len10, if_true, if_false, Bool.false_eq_true, eq_int, ne_int, gt_int, lt_int', le_int', ge_int', add_int, sub_int, abs_int, int_int, Option.map_some, src_lst, src_tup, ix_t0, ix_t1, ix_t2, ix_t3, ix_l0, ix_l1, ix_l2, is_non, and_true, true_and])
      refine pick_wp h8 h87 d5 (by omega) (by simpa using lne) (by rw [List.length_map]; omega) fun u S6 hu d6 g6 => ?_
      obtain ⟨a, ha, rfl⟩ := List.mem_map.mp hu
      exact fin a S6 _ (lsm a ha) (by omega) d6 (g'.trans (g4.trans (g5.trans g6))) (g6.own o5 hL) _ [] _ _ _ _ (fun _ _ _ => trivial) fun _ _ h => h
    · simp only [decide_eq_false hv, Bool.false_eq_true, if_false]
      (try simp only [List.cons_append, List.nil_append, w_var, t_var, w_int, w_str, w_bl, w_non, w_gl, w_bin, w_neg, t_cmp, w_cmp, t_chain, w_chain, t_isC, w_isC, w_isi, t_isi, t_bop1, t_bop, w_bop1, w_bop, t_nt, w_nt, w_ite, t_ite, w_nil, w_cons, a_tup, w_fz, w_mu, a_disp, a_comp, w_ofSeq, w_call, w_prim, w_ix, w_sl, w_rev, w_pop, w_popAt, w_app, e_nop, e_int, e_var, e_bin, i_seq, a_rng, rngA_int, a_rng2, rngB_int, a_zip, zipA_some, a_enum, enA_some, src_tsI, src_lsI, t_call, t_prim, tru_bl, opt_some, t_nop, List.getElem?_cons_zero, List.getElem?_cons_succ, setTg, setTgs, List.set_cons_zero, List.set_cons_succ, wp_ok, wipeE, len0, len1, len2, len3, len4, len5, len6, len7, len8, len9, len10, if_true, if_false, Bool.false_eq_true, eq_int, ne_int, gt_int, lt_int', le_int', ge_int', add_int, sub_int, abs_int, int_int, Option.map_some, src_lst, src_tup, ix_t0, ix_t1, ix_t2, ix_t3, ix_l0, ix_l1, ix_l2, is_non, and_true, true_and, lw])
      refine draw_wp h7 d5 (by omega) (by omega) (by omega) fun a S6 a0 a1 d6 g6 => ?_
      obtain ⟨a, rfl⟩ := Int.eq_ofNat_of_zero_le a0
      exact fin a S6 _ (by omega) (by omega) d6 (g'.trans (g4.trans (g5.trans g6))) (g6.own o5 hL) _ [] _ _ _ _ (fun _ _ _ => trivial) fun _ _ h => h
  · rintro env S' ⟨hlen, d', g', j4, j7, j8, j9, j10, j11, F, rfl, oF, lF, hF⟩
    rw [List.length_nil] at hlen
    show kR _ _ _ _ _ _
    rw [kR_eq, q_ret]
    (try simp only [List.cons_append, List.nil_append, w_var, t_var, w_int, w_str, w_bl, w_non, w_gl, w_bin, w_neg, t_cmp, w_cmp, t_chain, w_chain, t_isC, w_isC, w_isi, t_isi, t_bop1, t_bop, w_bop1, w_bop, t_nt, w_nt, w_ite, t_ite, w_nil, w_cons, a_tup, w_fz, w_mu, a_disp, a_comp, w_ofSeq, w_call, w_prim, w_ix, w_sl, w_rev, w_pop, w_popAt, w_app, e_nop, e_int, e_var, e_bin, i_seq, a_rng, rngA_int, a_rng2, rngB_int, a_zip, zipA_some, a_enum, enA_some, src_tsI, src_lsI, t_call, t_prim, tru_bl, opt_some, t_nop, List.getElem?_cons_zero, List.getElem?_cons_succ, setTg, setTgs, List.set_cons_zero, List.set_cons_succ, wp_ok, wipeE, len0, len1, len2, len3, len4, len5, len6, len7, len8, len9, len10, if_true, if_false, Bool.false_eq_true, eq_int, ne_int, gt_int, lt_int', le_int', ge_int', add_int, sub_int, abs_int, int_int, Option.map_some, src_lst, src_tup, ix_t0, ix_t1, ix_t2, ix_t3, ix_l0, ix_l1, ix_l2, is_non, and_true, true_and, tup_cell oF])
    exact ⟨⟨F, rfl, by omega, hF⟩, d'.mono (by omega), g'⟩
/-! ### the law -/
theorem rOk_pr {p : Int × Int} {k : Nat} (h : p.1.natAbs ≤ 4800 ∧ p.2.natAbs ≤ 4800) : Tv.rOk (k + 1) (pr p) = true := by
  have h1 : p.1.natAbs.log2 ≤ 13 := (Bd.of (k := 13) h.1 (by decide)).log
  have h2 : p.2.natAbs.log2 ≤ 13 := (Bd.of (k := 13) h.2 (by decide)).log
  have ri : ∀ i : Int, Tv.rOk k (.int i) = decide (i.natAbs.log2 < 1920) := fun i => by cases k <;> rfl
  rw [pr, Tv.rOk, Tv.rOks, Tv.rOks, Tv.rOks, ri, ri, decide_eq_true (show p.1.natAbs.log2 < 1920 by omega), decide_eq_true (show p.2.natAbs.log2 < 1920 by omega)]
  rfl
theorem rOk_sg {s : Sg} {n k : Nat} (h : SgOk n s) : Tv.rOk (k + 3) (sgT s) = true := by
  have a : Tv.rOks (k + 1) (s.1.map tsI) = true := rOks_rows fun r hr x hx => Bd.mono (k := 6) (way_bd h hr x hx) (by decide)
  have b : Tv.rOk (k + 2) (.int (s.2 : Int)) = true := by
    have : ((s.2 : Int)).natAbs.log2 ≤ 13 := (Bd.of (k := 13) (m := 12) (by have := h.at'; have := h.len; omega) (by decide)).log
    exact decide_eq_true (by omega)
  rw [sgT, Tv.rOk, Tv.rOks, Tv.rOk, a, Tv.rOks, b, Tv.rOks]
  rfl
theorem bulk_sg {s : Sg} {n : Nat} (h : SgOk n s) (hn : n ≤ 4) : Tv.bulk (sgT s) ≤ 70 := by
  have := bulks_rows (n := 4) (R := s.1) fun r hr => by rw [(h.ways r hr).1]; exact hn
  have l := h.len
  rw [sgT, Tv.bulk, Tv.bulks, Tv.bulk, Tv.bulks, show Tv.bulk (.int (s.2 : Int)) = 0 from rfl, Tv.bulks]
  omega
theorem repr_sgs {S : Sto} {ss : List Sg} {n : Nat} (hn : n ≤ 4) (hl : ss.length ≤ 8) (h : ∀ s ∈ ss, SgOk n s) : primV .repr S [.tup (ss.map sgT)] = some (.str (Tv.shown (.tup (ss.map sgT)))) := by
  refine repr_ok rfl ?_ ?_
  · rw [Tv.rOk]
    clear hl
    induction ss with
    | nil => rfl
    | cons s ss ih => rw [List.map_cons, Tv.rOks, ih fun u hu => h u (List.mem_cons_of_mem _ hu), rOk_sg (h s List.mem_cons_self)]; rfl
  · rw [Tv.bulk]
    have go : ∀ l : List Sg, (∀ s ∈ l, SgOk n s) → Tv.bulks (l.map sgT) ≤ 71 * l.length := by
      intro l
      induction l with
      | nil => intro _; exact Nat.le_refl _
      | cons s l ih =>
        intro h
        have := ih fun u hu => h u (List.mem_cons_of_mem _ hu)
        have := bulk_sg (h s List.mem_cons_self) hn
        rw [List.map_cons, Tv.bulks, List.length_cons]
        omega
    have := go ss h
    omega
theorem hi_small {h : Option (Int × Int)} (k : ∀ g, h = some g → g.1.natAbs ≤ 4800 ∧ g.2.natAbs ≤ 4800) {j : Nat} : Tv.rOk (j + 1) (hiT h) = true ∧ Tv.bulk (hiT h) ≤ 10 := by
  cases h with
  | none => exact ⟨rfl, Nat.zero_le _⟩
  | some g => exact ⟨rOk_pr (k g rfl), by simp [hiT, pr, Tv.bulk, Tv.bulks]⟩
theorem repr_range {S : Sto} {low : Int × Int} {high : Option (Int × Int)} (h1 : low.1.natAbs ≤ 4800 ∧ low.2.natAbs ≤ 4800) (h2 : ∀ g, high = some g → g.1.natAbs ≤ 4800 ∧ g.2.natAbs ≤ 4800) : primV .repr S [.tup [pr low, hiT high]] = some (.str (Tv.shown (.tup [pr low, hiT high]))) := by
  obtain ⟨a, b⟩ := hi_small h2 (j := 14)
  refine repr_ok rfl ?_ ?_
  · rw [Tv.rOk, Tv.rOks, Tv.rOks, Tv.rOks, rOk_pr h1, a]
    rfl
  · rw [Tv.bulk, Tv.bulks, Tv.bulks, Tv.bulks]
    have : Tv.bulk (pr low) = 2 := by simp [pr, Tv.bulk, Tv.bulks]
    omega
theorem ne_range {S : Sto} {low : Int × Int} {high : Option (Int × Int)} : cmpV .ne S (.tup [pr low, hiT high]) (.tup []) = some true := by
  have e : cmpV .ne S (.tup [pr low, hiT high]) (.tup []) = (if Tv.dOk 16 (.tup [pr low, hiT high]) = true ∧ Tv.dOk 16 (.tup []) = true then some (Tv.eqb (.tup [pr low, hiT high]) (.tup [])) else none).map (!·) := rfl
  rw [e, if_pos ⟨by cases high <;> rfl, rfl⟩]
  rfl
theorem k33_law {cf c7 : Nat → List Tv → M Tv} {ns : List Int}
    (h6 : (cf 6 [.scr (ns.map Tv.int)] []).wp fun t S => t = .cell 1 ∧ Dk 0 S)
    (h7 : cf 7 = runD c7 xDraw)
    (h9 : ∀ (S : Sto) (b m : Nat), Dk b S → m ≤ 100 → b + 2 * m ≤ 900000 → (cf 9 [.cell 1, .int m] S).wp fun t S' => Wts m t ∧ Dk (b + 2 * m) S' ∧ Grow S S')
    (h31 : ∀ (S : Sto) (b n : Nat) (base extra : List Int), Dk b S → n ≤ 4 → WsOk n base → WsOk n extra → b + 2000 ≤ 900000 → (cf 31 [.cell 1, tsI base, tsI extra] S).wp fun t S' => SgsV n t ∧ Dk (b + 2000) S' ∧ Grow S S')
    (h28 : ∀ (S : Sto) (n : Nat) (base extra : List Int) (ss : List Sg), WsOk n base → WsOk n extra → n ≤ 4 → (∀ s ∈ ss, SgOk n s) → ∃ t, cf 28 [tsI base, tsI extra, .tup (ss.map sgT)] S = .ok t S ∧ PRes (allP base extra ss) t)
    (h32 : ∀ (S : Sto) (n : Nat) (base extra : List Int) (ss : List Sg), WsOk n base → WsOk n extra → n ≤ 4 → (∀ s ∈ ss, SgOk n s) → ss.length ≤ 100 → ∃ t, cf 32 [tsI base, tsI extra, .tup (ss.map sgT)] S = .ok t S ∧ LRes (allP base extra ss) t) :
    ∃ S', runD cf xLaw_k33 [.scr (ns.map Tv.int)] [] = .ok (.bl true) S' := by
  refine run_law rfl ?_
  show (exs cf Fu xLaw_k33.body [some (.scr (ns.map Tv.int)), none, none, none, none, none, none, none, none, none] []).wp _
  unfold xLaw_k33
  rw [q_asg]
  (try simp only [List.cons_append, List.nil_append, w_var, t_var, w_int, w_str, w_bl, w_non, w_gl, w_bin, w_neg, t_cmp, w_cmp, t_chain, w_chain, t_isC, w_isC, w_isi, t_isi, t_bop1, t_bop, w_bop1, w_bop, t_nt, w_nt, w_ite, t_ite, w_nil, w_cons, a_tup, w_fz, w_mu, a_disp, a_comp, w_ofSeq, w_call, w_prim, w_ix, w_sl, w_rev, w_pop, w_popAt, w_app, e_nop, e_int, e_var, e_bin, i_seq, a_rng, rngA_int, a_rng2, rngB_int, a_zip, zipA_some, a_enum, enA_some, src_tsI, src_lsI, t_call, t_prim, tru_bl, opt_some, t_nop, List.getElem?_cons_zero, List.getElem?_cons_succ, setTg, setTgs, List.set_cons_zero, List.set_cons_succ, wp_ok, wipeE, len0, len1, len2, len3, len4, len5, len6, len7, len8, len9, len10, if_true, if_false, Bool.false_eq_true, eq_int, ne_int, gt_int, lt_int', le_int', ge_int', add_int, sub_int, abs_int, int_int, Option.map_some, src_lst, src_tup, ix_t0, ix_t1, ix_t2, ix_t3, ix_l0, ix_l1, ix_l2, is_non, and_true, true_and])
  refine wp_mono h6 ?_
  rintro t S ⟨rfl, d0⟩
  (try simp only [exs_nil, q_asg, kA_eq, kR_eq, q_drop, kD_eq, q_ret, q_if, kI_t, kI_f, q_set, kS_eq, q_pass, q_brk, q_cont, q_for, kF_eq, List.cons_append, List.nil_append, w_var, t_var, w_int, w_str, w_bl, w_non, w_gl, w_bin, w_neg, t_cmp, w_cmp, t_chain, w_chain, t_isC, w_isC, w_isi, t_isi, t_bop1, t_bop, w_bop1, w_bop, t_nt, w_nt, w_ite, t_ite, w_nil, w_cons, a_tup, w_fz, w_mu, a_disp, a_comp, w_ofSeq, w_call, w_prim, w_ix, w_sl, w_rev, w_pop, w_popAt, w_app, e_nop, e_int, e_var, e_bin, i_seq, a_rng, rngA_int, a_rng2, rngB_int, a_zip, zipA_some, a_enum, enA_some, src_tsI, src_lsI, t_call, t_prim, tru_bl, opt_some, t_nop, List.getElem?_cons_zero, List.getElem?_cons_succ, setTg, setTgs, List.set_cons_zero, List.set_cons_succ, wp_ok, wipeE, len0, len1, len2, len3, len4, len5, len6, len7, len8, len9, len10, if_true, if_false, Bool.false_eq_true, eq_int, ne_int, gt_int, lt_int', le_int', ge_int', add_int, sub_int, abs_int, int_int, Option.map_some, src_lst, src_tup, ix_t0, ix_t1, ix_t2, ix_t3, ix_l0, ix_l1, ix_l2, is_non, and_true, true_and])
  refine ⟨by decide, ?_⟩
  rw [rngT_map]
  refine for_on (fun dn r env S => Dk (2100 * dn.length) S ∧ dn.length + r.length = 8 ∧ ∃ j2 j3 j4 j5 j6 j7 j8 j9 : Option Tv, env = [some (.scr (ns.map Tv.int)), some (.cell 1), j2, j3, j4, j5, j6, j7, j8, j9]) (fun _ _ _ _ _ => rfl) ?_ ?_ ⟨d0, by decide, _, _, _, _, _, _, _, _, rfl⟩
  · rintro dn i r env S - ⟨d, hlen, j2, j3, j4, j5, j6, j7, j8, j9, rfl⟩
    simp only [List.length_cons] at hlen
    (try simp only [List.cons_append, List.nil_append, w_var, t_var, w_int, w_str, w_bl, w_non, w_gl, w_bin, w_neg, t_cmp, w_cmp, t_chain, w_chain, t_isC, w_isC, w_isi, t_isi, t_bop1, t_bop, w_bop1, w_bop, t_nt, w_nt, w_ite, t_ite, w_nil, w_cons, a_tup, w_fz, w_mu, a_disp, a_comp, w_ofSeq, w_call, w_prim, w_ix, w_sl, w_rev, w_pop, w_popAt, w_app, e_nop, e_int, e_var, e_bin, i_seq, a_rng, rngA_int, a_rng2, rngB_int, a_zip, zipA_some, a_enum, enA_some, src_tsI, src_lsI, t_call, t_prim, tru_bl, opt_some, t_nop, List.getElem?_cons_zero, List.getElem?_cons_succ, setTg, setTgs, List.set_cons_zero, List.set_cons_succ, wp_ok, wipeE, len0, len1, len2, len3, len4, len5, len6, len7, len8, len9, len10, if_true, if_false, Bool.false_eq_true, eq_int, ne_int, gt_int, lt_int', le_int', ge_int', add_int, sub_int, abs_int, int_int, Option.map_some, src_lst, src_tup, ix_t0, ix_t1, ix_t2, ix_t3, ix_l0, ix_l1, ix_l2, is_non, and_true, true_and])
    rw [q_asg]
    (try simp only [List.cons_append, List.nil_append, w_var, t_var, w_int, w_str, w_bl, w_non, w_gl, w_bin, w_neg, t_cmp, w_cmp, t_chain, w_chain, t_isC, w_isC, w_isi, t_isi, t_bop1, t_bop, w_bop1, w_bop, t_nt, w_nt, w_ite, t_ite, w_nil, w_cons, a_tup, w_fz, w_mu, a_disp, a_comp, w_ofSeq, w_call, w_prim, w_ix, w_sl, w_rev, w_pop, w_popAt, w_app, e_nop, e_int, e_var, e_bin, i_seq, a_rng, rngA_int, a_rng2, rngB_int, a_zip, zipA_some, a_enum, enA_some, src_tsI, src_lsI, t_call, t_prim, tru_bl, opt_some, t_nop, List.getElem?_cons_zero, List.getElem?_cons_succ, setTg, setTgs, List.set_cons_zero, List.set_cons_succ, wp_ok, wipeE, len0, len1, len2, len3, len4, len5, len6, len7, len8, len9, len10, if_true, if_false, Bool.false_eq_true, eq_int, ne_int, gt_int, lt_int', le_int', ge_int', add_int, sub_int, abs_int, int_int, Option.map_some, src_lst, src_tup, ix_t0, ix_t1, ix_t2, ix_t3, ix_l0, ix_l1, ix_l2, is_non, and_true, true_and])
    refine draw_wp h7 d (by omega) (by decide) (by decide) fun v S1 v0 v1 d1 g1 => ?_
    obtain ⟨v, rfl⟩ := Int.eq_ofNat_of_zero_le v0
    have ev1 : (1 : Int) + (v : Int) = ((v + 1 : Nat) : Int) := by omega
    (try simp only [List.cons_append, List.nil_append, w_var, t_var, w_int, w_str, w_bl, w_non, w_gl, w_bin, w_neg, t_cmp, w_cmp, t_chain, w_chain, t_isC, w_isC, w_isi, t_isi, t_bop1, t_bop, w_bop1, w_bop, t_nt, w_nt, w_ite, t_ite, w_nil, w_cons, a_tup, w_fz, w_mu, a_disp, a_comp, w_ofSeq, w_call, w_prim, w_ix, w_sl, w_rev, w_pop, w_popAt, w_app, e_nop, e_int, e_var, e_bin, i_seq, a_rng, rngA_int, a_rng2, rngB_int, a_zip, zipA_some, a_enum, enA_some, src_tsI, src_lsI, t_call, t_prim, tru_bl, opt_some, t_nop, List.getElem?_cons_zero, List.getElem?_cons_succ, setTg, setTgs, List.set_cons_zero, List.set_cons_succ, wp_ok, wipeE, len0, len1, len2, len3, len4, len5, len6, len7, len8, len9, len10, if_true, if_false, Bool.false_eq_true, eq_int, ne_int, gt_int, lt_int', le_int', ge_int', add_int, sub_int, abs_int, int_int, Option.map_some, src_lst, src_tup, ix_t0, ix_t1, ix_t2, ix_t3, ix_l0, ix_l1, ix_l2, is_non, and_true, true_and])
    rw [ev1]
    generalize hm : v + 1 = n
    have hn : 1 ≤ n ∧ n ≤ 4 := by omega
    rw [kA_eq]
    (try simp only [List.cons_append, List.nil_append, w_var, t_var, w_int, w_str, w_bl, w_non, w_gl, w_bin, w_neg, t_cmp, w_cmp, t_chain, w_chain, t_isC, w_isC, w_isi, t_isi, t_bop1, t_bop, w_bop1, w_bop, t_nt, w_nt, w_ite, t_ite, w_nil, w_cons, a_tup, w_fz, w_mu, a_disp, a_comp, w_ofSeq, w_call, w_prim, w_ix, w_sl, w_rev, w_pop, w_popAt, w_app, e_nop, e_int, e_var, e_bin, i_seq, a_rng, rngA_int, a_rng2, rngB_int, a_zip, zipA_some, a_enum, enA_some, src_tsI, src_lsI, t_call, t_prim, tru_bl, opt_some, t_nop, List.getElem?_cons_zero, List.getElem?_cons_succ, setTg, setTgs, List.set_cons_zero, List.set_cons_succ, wp_ok, wipeE, len0, len1, len2, len3, len4, len5, len6, len7, len8, len9, len10, if_true, if_false, Bool.false_eq_true, eq_int, ne_int, gt_int, lt_int', le_int', ge_int', add_int, sub_int, abs_int, int_int, Option.map_some, src_lst, src_tup, ix_t0, ix_t1, ix_t2, ix_t3, ix_l0, ix_l1, ix_l2, is_non, and_true, true_and])
    rw [q_asg]
    (try simp only [List.cons_append, List.nil_append, w_var, t_var, w_int, w_str, w_bl, w_non, w_gl, w_bin, w_neg, t_cmp, w_cmp, t_chain, w_chain, t_isC, w_isC, w_isi, t_isi, t_bop1, t_bop, w_bop1, w_bop, t_nt, w_nt, w_ite, t_ite, w_nil, w_cons, a_tup, w_fz, w_mu, a_disp, a_comp, w_ofSeq, w_call, w_prim, w_ix, w_sl, w_rev, w_pop, w_popAt, w_app, e_nop, e_int, e_var, e_bin, i_seq, a_rng, rngA_int, a_rng2, rngB_int, a_zip, zipA_some, a_enum, enA_some, src_tsI, src_lsI, t_call, t_prim, tru_bl, opt_some, t_nop, List.getElem?_cons_zero, List.getElem?_cons_succ, setTg, setTgs, List.set_cons_zero, List.set_cons_succ, wp_ok, wipeE, len0, len1, len2, len3, len4, len5, len6, len7, len8, len9, len10, if_true, if_false, Bool.false_eq_true, eq_int, ne_int, gt_int, lt_int', le_int', ge_int', add_int, sub_int, abs_int, int_int, Option.map_some, src_lst, src_tup, ix_t0, ix_t1, ix_t2, ix_t3, ix_l0, ix_l1, ix_l2, is_non, and_true, true_and])
    refine wp_mono (h9 S1 _ n d1 (by omega) (by omega)) ?_
    rintro t S2 ⟨⟨bs, rfl, bl, bb⟩, d2, g2⟩
    (try simp only [List.cons_append, List.nil_append, w_var, t_var, w_int, w_str, w_bl, w_non, w_gl, w_bin, w_neg, t_cmp, w_cmp, t_chain, w_chain, t_isC, w_isC, w_isi, t_isi, t_bop1, t_bop, w_bop1, w_bop, t_nt, w_nt, w_ite, t_ite, w_nil, w_cons, a_tup, w_fz, w_mu, a_disp, a_comp, w_ofSeq, w_call, w_prim, w_ix, w_sl, w_rev, w_pop, w_popAt, w_app, e_nop, e_int, e_var, e_bin, i_seq, a_rng, rngA_int, a_rng2, rngB_int, a_zip, zipA_some, a_enum, enA_some, src_tsI, src_lsI, t_call, t_prim, tru_bl, opt_some, t_nop, List.getElem?_cons_zero, List.getElem?_cons_succ, setTg, setTgs, List.set_cons_zero, List.set_cons_succ, wp_ok, wipeE, len0, len1, len2, len3, len4, len5, len6, len7, len8, len9, len10, if_true, if_false, Bool.false_eq_true, eq_int, ne_int, gt_int, lt_int', le_int', ge_int', add_int, sub_int, abs_int, int_int, Option.map_some, src_lst, src_tup, ix_t0, ix_t1, ix_t2, ix_t3, ix_l0, ix_l1, ix_l2, is_non, and_true, true_and])
    refine wp_mono (h9 S2 _ n d2 (by omega) (by omega)) ?_
    rintro t S3 ⟨⟨es, rfl, el, eb⟩, d3, g3⟩
    have hb : WsOk n bs := ⟨bl, bb⟩
    have he : WsOk n es := ⟨el, eb⟩
    rw [show Tv.tup (bs.map Tv.int) = tsI bs from rfl, show Tv.tup (es.map Tv.int) = tsI es from rfl]
    (try simp only [List.cons_append, List.nil_append, w_var, t_var, w_int, w_str, w_bl, w_non, w_gl, w_bin, w_neg, t_cmp, w_cmp, t_chain, w_chain, t_isC, w_isC, w_isi, t_isi, t_bop1, t_bop, w_bop1, w_bop, t_nt, w_nt, w_ite, t_ite, w_nil, w_cons, a_tup, w_fz, w_mu, a_disp, a_comp, w_ofSeq, w_call, w_prim, w_ix, w_sl, w_rev, w_pop, w_popAt, w_app, e_nop, e_int, e_var, e_bin, i_seq, a_rng, rngA_int, a_rng2, rngB_int, a_zip, zipA_some, a_enum, enA_some, src_tsI, src_lsI, t_call, t_prim, tru_bl, opt_some, t_nop, List.getElem?_cons_zero, List.getElem?_cons_succ, setTg, setTgs, List.set_cons_zero, List.set_cons_succ, wp_ok, wipeE, len0, len1, len2, len3, len4, len5, len6, len7, len8, len9, len10, if_true, if_false, Bool.false_eq_true, eq_int, ne_int, gt_int, lt_int', le_int', ge_int', add_int, sub_int, abs_int, int_int, Option.map_some, src_lst, src_tup, ix_t0, ix_t1, ix_t2, ix_t3, ix_l0, ix_l1, ix_l2, is_non, and_true, true_and])
    rw [kA_eq]
    (try simp only [List.cons_append, List.nil_append, w_var, t_var, w_int, w_str, w_bl, w_non, w_gl, w_bin, w_neg, t_cmp, w_cmp, t_chain, w_chain, t_isC, w_isC, w_isi, t_isi, t_bop1, t_bop, w_bop1, w_bop, t_nt, w_nt, w_ite, t_ite, w_nil, w_cons, a_tup, w_fz, w_mu, a_disp, a_comp, w_ofSeq, w_call, w_prim, w_ix, w_sl, w_rev, w_pop, w_popAt, w_app, e_nop, e_int, e_var, e_bin, i_seq, a_rng, rngA_int, a_rng2, rngB_int, a_zip, zipA_some, a_enum, enA_some, src_tsI, src_lsI, t_call, t_prim, tru_bl, opt_some, t_nop, List.getElem?_cons_zero, List.getElem?_cons_succ, setTg, setTgs, List.set_cons_zero, List.set_cons_succ, wp_ok, wipeE, len0, len1, len2, len3, len4, len5, len6, len7, len8, len9, len10, if_true, if_false, Bool.false_eq_true, eq_int, ne_int, gt_int, lt_int', le_int', ge_int', add_int, sub_int, abs_int, int_int, Option.map_some, src_lst, src_tup, ix_t0, ix_t1, ix_t2, ix_t3, ix_l0, ix_l1, ix_l2, is_non, and_true, true_and])
    rw [q_asg]
    (try simp only [List.cons_append, List.nil_append, w_var, t_var, w_int, w_str, w_bl, w_non, w_gl, w_bin, w_neg, t_cmp, w_cmp, t_chain, w_chain, t_isC, w_isC, w_isi, t_isi, t_bop1, t_bop, w_bop1, w_bop, t_nt, w_nt, w_ite, t_ite, w_nil, w_cons, a_tup, w_fz, w_mu, a_disp, a_comp, w_ofSeq, w_call, w_prim, w_ix, w_sl, w_rev, w_pop, w_popAt, w_app, e_nop, e_int, e_var, e_bin, i_seq, a_rng, rngA_int, a_rng2, rngB_int, a_zip, zipA_some, a_enum, enA_some, src_tsI, src_lsI, t_call, t_prim, tru_bl, opt_some, t_nop, List.getElem?_cons_zero, List.getElem?_cons_succ, setTg, setTgs, List.set_cons_zero, List.set_cons_succ, wp_ok, wipeE, len0, len1, len2, len3, len4, len5, len6, len7, len8, len9, len10, if_true, if_false, Bool.false_eq_true, eq_int, ne_int, gt_int, lt_int', le_int', ge_int', add_int, sub_int, abs_int, int_int, Option.map_some, src_lst, src_tup, ix_t0, ix_t1, ix_t2, ix_t3, ix_l0, ix_l1, ix_l2, is_non, and_true, true_and])
    refine wp_mono (h31 S3 _ n bs es d3 (by omega) hb he (by omega)) ?_
    rintro t S4 ⟨⟨ss, rfl, sl, hs⟩, d4, g4⟩
    obtain ⟨t, ht, hT⟩ := h28 S4 n bs es ss hb he (by omega) hs
    obtain ⟨u, hu, hU⟩ := h32 S4 n bs es ss hb he (by omega) hs (by omega)
    have small := all_small hb he (by omega) hs
    have rs := repr_sgs (S := S4) (by omega) sl hs
    rcases ranges_same hT hU with ⟨rfl, rfl⟩ | ⟨low, high, hP, hc, rfl, rfl⟩
    · have c1 : cmpV .ne S4 (.tup []) (.tup []) = some false := by simp [cmpV, eqS, eqS0, thaw, Tv.dOk, Tv.dOks, Tv.eqb, Tv.eqbs]
      (try simp only [exs_nil, q_asg, kA_eq, kR_eq, q_drop, kD_eq, q_ret, q_if, kI_t, kI_f, q_set, kS_eq, q_pass, q_brk, q_cont, q_for, kF_eq, List.cons_append, List.nil_append, w_var, t_var, w_int, w_str, w_bl, w_non, w_gl, w_bin, w_neg, t_cmp, w_cmp, t_chain, w_chain, t_isC, w_isC, w_isi, t_isi, t_bop1, t_bop, w_bop1, w_bop, t_nt, w_nt, w_ite, t_ite, w_nil, w_cons, a_tup, w_fz, w_mu, a_disp, a_comp, w_ofSeq, w_call, w_prim, w_ix, w_sl, w_rev, w_pop, w_popAt, w_app, e_nop, e_int, e_var, e_bin, i_seq, a_rng, rngA_int, a_rng2, rngB_int, a_zip, zipA_some, a_enum, enA_some, src_tsI, src_lsI, t_call, t_prim, tru_bl, opt_some, t_nop, List.getElem?_cons_zero, List.getElem?_cons_succ, setTg, setTgs, List.set_cons_zero, List.set_cons_succ, wp_ok, wipeE, len0, len1, len2, len3, len4, len5, len6, len7, len8, len9, len10, if_true, if_false, Bool.false_eq_true, eq_int, ne_int, gt_int, lt_int', le_int', ge_int', add_int, sub_int, abs_int, int_int, Option.map_some, src_lst, src_tup, ix_t0, ix_t1, ix_t2, ix_t3, ix_l0, ix_l1, ix_l2, is_non, and_true, true_and, ht, hu, rs, c1, repr_ok (S := S4) (t := .non) rfl rfl (by decide), ne_str])
      exact ⟨d4.mono (by rw [List.length_append, List.length_singleton]; omega), by rw [List.length_append, List.length_singleton]; omega, _, _, _, _, _, _, _, _, rfl⟩
    · have sm := PR_small (B := 4800) (by decide) hP small
      (try simp only [exs_nil, q_asg, kA_eq, kR_eq, q_drop, kD_eq, q_ret, q_if, kI_t, kI_f, q_set, kS_eq, q_pass, q_brk, q_cont, q_for, kF_eq, List.cons_append, List.nil_append, w_var, t_var, w_int, w_str, w_bl, w_non, w_gl, w_bin, w_neg, t_cmp, w_cmp, t_chain, w_chain, t_isC, w_isC, w_isi, t_isi, t_bop1, t_bop, w_bop1, w_bop, t_nt, w_nt, w_ite, t_ite, w_nil, w_cons, a_tup, w_fz, w_mu, a_disp, a_comp, w_ofSeq, w_call, w_prim, w_ix, w_sl, w_rev, w_pop, w_popAt, w_app, e_nop, e_int, e_var, e_bin, i_seq, a_rng, rngA_int, a_rng2, rngB_int, a_zip, zipA_some, a_enum, enA_some, src_tsI, src_lsI, t_call, t_prim, tru_bl, opt_some, t_nop, List.getElem?_cons_zero, List.getElem?_cons_succ, setTg, setTgs, List.set_cons_zero, List.set_cons_succ, wp_ok, wipeE, len0, len1, len2, len3, len4, len5, len6, len7, len8, len9, len10, if_true, if_false, Bool.false_eq_true, eq_int, ne_int, gt_int, lt_int', le_int', ge_int', add_int, sub_int, abs_int, int_int, Option.map_some, src_lst, src_tup, ix_t0, ix_t1, ix_t2, ix_t3, ix_l0, ix_l1, ix_l2, is_non, and_true, true_and, ht, hu, rs, ne_range (S := S4) (low := low) (high := high), repr_range (S := S4) sm.1 sm.2, ne_str])
      exact ⟨d4.mono (by rw [List.length_append, List.length_singleton]; omega), by rw [List.length_append, List.length_singleton]; omega, _, _, _, _, _, _, _, _, rfl⟩
  · rintro env S ⟨d, hlen, j2, j3, j4, j5, j6, j7, j8, j9, rfl⟩
    (try simp only [exs_nil, q_asg, kA_eq, kR_eq, q_drop, kD_eq, q_ret, q_if, kI_t, kI_f, q_set, kS_eq, q_pass, q_brk, q_cont, q_for, kF_eq, List.cons_append, List.nil_append, w_var, t_var, w_int, w_str, w_bl, w_non, w_gl, w_bin, w_neg, t_cmp, w_cmp, t_chain, w_chain, t_isC, w_isC, w_isi, t_isi, t_bop1, t_bop, w_bop1, w_bop, t_nt, w_nt, w_ite, t_ite, w_nil, w_cons, a_tup, w_fz, w_mu, a_disp, a_comp, w_ofSeq, w_call, w_prim, w_ix, w_sl, w_rev, w_pop, w_popAt, w_app, e_nop, e_int, e_var, e_bin, i_seq, a_rng, rngA_int, a_rng2, rngB_int, a_zip, zipA_some, a_enum, enA_some, src_tsI, src_lsI, t_call, t_prim, tru_bl, opt_some, t_nop, List.getElem?_cons_zero, List.getElem?_cons_succ, setTg, setTgs, List.set_cons_zero, List.set_cons_succ, wp_ok, wipeE, len0, len1, len2, len3, len4, len5, len6, len7, len8, len9, len10, if_true, if_false, Bool.false_eq_true, eq_int, ne_int, gt_int, lt_int', le_int', ge_int', add_int, sub_int, abs_int, int_int, Option.map_some, src_lst, src_tup, ix_t0, ix_t1, ix_t2, ix_t3, ix_l0, ix_l1, ix_l2, is_non, and_true, true_and])
end Mp
namespace Mp
/-! ### penalties: the tables' entries, joined -/
theorem cost_of {cf c26 c25 : Nat → List Tv → M Tv} (h26 : cf 26 = runD c26 xCost) (h25 : c26 25 = runD c25 xDot) (S : Sto) (a b : List Int) (ha : ∀ x ∈ a, Bd 5 x) (hb : ∀ x ∈ b, Bd 6 x) (hl : a.length ≤ 1000) : cf 26 [tsI a, tsI b] S = .ok (.int (Qr.dot a b)) S := by
  rw [h26]
  exact cost_bd h25 ha hb (by decide) hl
theorem lawCost_of {cf c30 : Nat → List Tv → M Tv} (h30 : cf 30 = runD c30 xLawCost) (S : Sto) (a b : List Int) (ha : ∀ x ∈ a, Bd 5 x) (hb : ∀ x ∈ b, Bd 6 x) (hl : a.length ≤ 1000) : cf 30 [tsI a, tsI b] S = .ok (.int (Qr.dot a b)) S := by
  rw [h30]
  exact dot_bd ha hb (by decide) hl
theorem less_of {cf c3 : Nat → List Tv → M Tv} (h3 : cf 3 = runD c3 xIsLess) (S : Sto) (a c : Int × Int) (ha : a.1.natAbs ≤ 4800 ∧ a.2.natAbs ≤ 4800) (hc : c.1.natAbs ≤ 4800 ∧ c.2.natAbs ≤ 4800) : cf 3 [pr a, pr c] S = .ok (.bl (decide (Qp.lt a c))) S := by
  rw [h3]
  have l : ∀ x : Int, x.natAbs ≤ 4800 → x.natAbs.log2 < 400000 := fun x hx => by
    have := (Bd.of (k := 13) hx (by decide)).log
    omega
  exact isLess_ok (l _ ha.1) (l _ ha.2) (l _ hc.1) (l _ hc.2)
theorem gcd_pair (a b : Int) : Qr.gcdL [a, b] = Int.gcd a b := by
  show Nat.gcd a.natAbs (Nat.gcd b.natAbs 0) = Nat.gcd a.natAbs b.natAbs
  rw [Nat.gcd_zero_right]
theorem bd_pair {a b : Int} (ha : a.natAbs ≤ 4800) (hb : b.natAbs ≤ 4800) : ∀ n ∈ [a, b], Bd 13 n := fun n h => by
  simp only [List.mem_cons, List.not_mem_nil, or_false] at h
  rcases h with rfl | rfl
  · exact Bd.of ha (by decide)
  · exact Bd.of hb (by decide)
theorem gcd_log {a b : Int} (hb : 0 < b) (hb2 : b.natAbs ≤ 4800) : 0 < Int.gcd a b ∧ (Int.gcd a b).log2 < 9000 := by
  have h0 : 0 < Int.gcd a b := Nat.gcd_pos_of_pos_right _ (by omega)
  have h1 : Int.gcd a b ≤ b.natAbs := Nat.gcd_le_right _ (by omega)
  exact ⟨h0, small_9000 (by omega) h0⟩
theorem frac_of {cf c2 c1 : Nat → List Tv → M Tv} (h2 : cf 2 = runD c2 (xFraction 1)) (h1 : c2 1 = runD c1 xDivisor) (S : Sto) (a b : Int) (hb : 0 < b) (ha : a.natAbs ≤ 4800) (hb2 : b.natAbs ≤ 4800) : cf 2 [.int a, .int b] S = .ok (pr (Qp.red a b)) S := by
  rw [h2]
  obtain ⟨g0, g1⟩ := gcd_log (a := a) hb hb2
  exact fraction_ok (k := 1) (fun S => by
    rw [h1, ← gcd_pair]
    exact divisor_bd (bd_pair ha hb2) (by decide)) g0 g1
theorem lowest_of {cf c11 c10 : Nat → List Tv → M Tv} (h11 : cf 11 = runD c11 (xLowest 10)) (h10 : c11 10 = runD c10 xLawDivisor) (S : Sto) (a b : Int) (hb : 0 < b) (ha : a.natAbs ≤ 4800) (hb2 : b.natAbs ≤ 4800) : cf 11 [pr (a, b)] S = .ok (pr (Qp.red a b)) S := by
  rw [h11]
  obtain ⟨g0, g1⟩ := gcd_log (a := a) hb hb2
  exact lowest_ok (k := 10) (ns := [a, b]) (fun S => by
    rw [h10, ← gcd_pair]
    exact lawDivisor_bd rfl (bd_pair ha hb2) (by decide)) g0 g1 (by simp)
theorem range_of {cf c28 c27 c26 c25 c3 c2 c1 : Nat → List Tv → M Tv} (h28 : cf 28 = runD c28 xPenaltyRange) (h27 : c28 27 = runD c27 xBoundsOf) (h26 : c27 26 = runD c26 xCost) (h25 : c26 25 = runD c25 xDot) (h3 : c28 3 = runD c3 xIsLess) (h2 : c28 2 = runD c2 (xFraction 1)) (h1 : c2 1 = runD c1 xDivisor)
    (S : Sto) (n : Nat) (base extra : List Int) (ss : List Sg) (hb : WsOk n base) (he : WsOk n extra) (hn : n ≤ 4) (hs : ∀ s ∈ ss, SgOk n s) : ∃ t, cf 28 [tsI base, tsI extra, .tup (ss.map sgT)] S = .ok t S ∧ PRes (allP base extra ss) t := by
  rw [h28]
  exact penaltyRange_ok (less_of h3) (frac_of h2 h1) (n := n) (fun S base extra s hb he hs => by rw [h27]; exact boundsOf_ok (cost_of h26 h25) hb he hn hs) hb he hn hs
theorem due_of {cf c32 c30 c11 c10 : Nat → List Tv → M Tv} (h32 : cf 32 = runD c32 xLawDueRange) (h30 : c32 30 = runD c30 xLawCost) (h11 : c32 11 = runD c11 (xLowest 10)) (h10 : c11 10 = runD c10 xLawDivisor)
    (S : Sto) (n : Nat) (base extra : List Int) (ss : List Sg) (hb : WsOk n base) (he : WsOk n extra) (hn : n ≤ 4) (hs : ∀ s ∈ ss, SgOk n s) (hl : ss.length ≤ 100) : ∃ t, cf 32 [tsI base, tsI extra, .tup (ss.map sgT)] S = .ok t S ∧ LRes (allP base extra ss) t := by
  rw [h32]
  exact lawDueRange_ok (lawCost_of h30) (lowest_of h11 h10) hb he hn hs hl
theorem sights_of {cf c31 c7 c8 c87 c29 c297 c298 c2987 c30 : Nat → List Tv → M Tv} (h31 : cf 31 = runD c31 xLawSights) (h7 : c31 7 = runD c7 xDraw) (h8 : c31 8 = runD c8 (xPick 7)) (h87 : c8 7 = runD c87 xDraw)
    (h29 : c31 29 = runD c29 xLawMarket) (h297 : c29 7 = runD c297 xDraw) (h298 : c29 8 = runD c298 (xPick 7)) (h2987 : c298 7 = runD c2987 xDraw) (h30 : c31 30 = runD c30 xLawCost)
    (S : Sto) (b n : Nat) (base extra : List Int) (d : Dk b S) (hn : n ≤ 4) (hb : WsOk n base) (he : WsOk n extra) (hbb : b + 2000 ≤ 900000) : (cf 31 [.cell 1, tsI base, tsI extra] S).wp fun t S' => SgsV n t ∧ Dk (b + 2000) S' ∧ Grow S S' := by
  rw [h31]
  exact lawSights_ok h7 h8 h87 (lawCost_of h30) hn (fun S b d hb => by rw [h29]; exact lawMarket_ok h297 h298 h2987 d hn hb) d hb he hbb
end Mp
noncomputable section
namespace Mk
open PySem L2 PySem.Spec PyProof.Rows Mp
def top (i : Nat) : Stmt := PySem.Challenge.pw_ratherroad_k33_penalties.main.body.getD i (.Pass ⟨0, 0, 0, 0⟩)
def eDivisor : En := ⟨"divisor", 1, ["numbers", "found", "number", "one"], ["numbers"], xDivisor, top 1⟩
def eFraction : En := ⟨"fraction", 2, ["upper", "lower", "part"], ["upper", "lower"], (xFraction 1), top 2⟩
def eIsLess : En := ⟨"is_less", 3, ["one", "other"], ["one", "other"], xIsLess, top 3⟩
def eDot : En := ⟨"dot", 25, ["row", "numbers", "one", "other"], ["row", "numbers"], xDot, top 4⟩
def eCost : En := ⟨"cost", 26, ["weights", "way"], ["weights", "way"], xCost, top 6⟩
def eBoundsOf : En := ⟨"bounds_of", 27, ["base", "extra", "sight", "market", "index", "own", "more", "way"], ["base", "extra", "sight"], xBoundsOf, top 8⟩
def ePenaltyRange : En := ⟨"penalty_range", 28, ["base", "extra", "sights", "sight", "low", "high", "times", "most"], ["base", "extra", "sights"], xPenaltyRange, top 9⟩
def eLawDeck : En := ⟨"_law_deck", 6, ["_law_script", "_law_cells", "_law_cell"], ["_law_script"], xDeck, top 11⟩
def eLawDraw : En := ⟨"_law_draw", 7, ["_law_deck_here", "_law_many", "_law_cell", "_law_mixed", "_law_rest"], ["_law_deck_here", "_law_many"], xDraw, top 12⟩
def eLawPick : En := ⟨"_law_pick", 8, ["_law_deck_here", "_law_items"], ["_law_deck_here", "_law_items"], (xPick 7), top 13⟩
def eLawWeights : En := ⟨"_law_weights", 9, ["_law_deck_here", "_law_things", "_law_thing"], ["_law_deck_here", "_law_things"], (xLawWeights 7 8), top 14⟩
def eLawMarket : En := ⟨"_law_market", 29, ["_law_deck_here", "_law_things", "_law_most", "_law_many", "_law_way", "_law_thing"], ["_law_deck_here", "_law_things"], xLawMarket, top 15⟩
def eLawCost : En := ⟨"_law_cost", 30, ["_law_weights_here", "_law_way", "_law_weight", "_law_count"], ["_law_weights_here", "_law_way"], xLawCost, top 16⟩
def eLawDivisor : En := ⟨"_law_divisor", 10, ["_law_numbers", "_law_found", "_law_number", "_law_one", "_law_step"], ["_law_numbers"], xLawDivisor, top 17⟩
def eLawLowest : En := ⟨"_law_lowest", 11, ["_law_row", "_law_part", "_law_number"], ["_law_row"], (xLowest 10), top 18⟩
def eLawSights : En := ⟨"_law_sights", 31, ["_law_deck_here", "_law_base", "_law_extra", "_law_penalty", "_law_sight", "_law_found", "_law_things", "_law_market_here", "_law_costs", "_law_least", "_law_at", "_law_way"], ["_law_deck_here", "_law_base", "_law_extra"], xLawSights, top 19⟩
def eLawDueRange : En := ⟨"_law_due_range", 32, ["_law_base", "_law_extra", "_law_sights_here", "_law_low", "_law_high", "_law_lows", "_law_highs", "_law_market_here", "_law_at", "_law_way", "_law_more", "_law_left", "_law_one", "_law_other"], ["_law_base", "_law_extra", "_law_sights_here"], xLawDueRange, top 20⟩
def eLaw : En := ⟨"law", 33, ["_law_script", "_law_deck_here", "_law_turn", "_law_things", "_law_sights_here", "_law_found", "_law_base", "_law_extra", "_law_shown", "_law_due"], ["_law_script"], xLaw_k33, top 21⟩
def r0 : List En := []
def r1 : List En := eDivisor :: r0
def r2 : List En := eFraction :: r1
def r3 : List En := eIsLess :: r2
def r4 : List En := eDot :: r3
def r5 : List En := eCost :: r4
def r6 : List En := eBoundsOf :: r5
def r7 : List En := ePenaltyRange :: r6
def r8 : List En := eLawDeck :: r7
def r9 : List En := eLawDraw :: r8
def r10 : List En := eLawPick :: r9
def r11 : List En := eLawWeights :: r10
def r12 : List En := eLawMarket :: r11
def r13 : List En := eLawCost :: r12
def r14 : List En := eLawDivisor :: r13
def r15 : List En := eLawLowest :: r14
def r16 : List En := eLawSights :: r15
def r17 : List En := eLawDueRange :: r16
def tb : Tb := ⟨[], [], ["abs", "int", "len", "min", "range", "repr", "sum", "tuple", "zip"], []⟩
theorem ab : AllB (eLaw :: r17) :=
  ⟨fun _ _ _ _ _ _ us hl => match us, hl with | [_], _ => rfl,
   fun _ _ _ _ _ _ us hl => match us, hl with | [_, _, _], _ => rfl,
   fun _ _ _ _ _ _ us hl => match us, hl with | [_, _, _], _ => rfl,
   fun _ _ _ _ _ _ us hl => match us, hl with | [_], _ => rfl,
   fun _ _ _ _ _ _ us hl => match us, hl with | [_], _ => rfl,
   fun _ _ _ _ _ _ us hl => match us, hl with | [_, _], _ => rfl,
   fun _ _ _ _ _ _ us hl => match us, hl with | [_, _], _ => rfl,
   fun _ _ _ _ _ _ us hl => match us, hl with | [_, _], _ => rfl,
   fun _ _ _ _ _ _ us hl => match us, hl with | [_, _], _ => rfl,
   fun _ _ _ _ _ _ us hl => match us, hl with | [_, _], _ => rfl,
   fun _ _ _ _ _ _ us hl => match us, hl with | [_], _ => rfl,
   fun _ _ _ _ _ _ us hl => match us, hl with | [_, _, _], _ => rfl,
   fun _ _ _ _ _ _ us hl => match us, hl with | [_, _, _], _ => rfl,
   fun _ _ _ _ _ _ us hl => match us, hl with | [_, _], _ => rfl,
   fun _ _ _ _ _ _ us hl => match us, hl with | [_, _], _ => rfl,
   fun _ _ _ _ _ _ us hl => match us, hl with | [_, _], _ => rfl,
   fun _ _ _ _ _ _ us hl => match us, hl with | [_, _], _ => rfl,
   fun _ _ _ _ _ _ us hl => match us, hl with | [_], _ => rfl, trivial⟩
theorem okk : okAll tb (eLaw :: r17) = true := by decide +kernel
theorem hL : eLaw.d = xLaw_k33 := rfl
theorem h1_1 : tab r1 1 = runD (tab r0) xDivisor := rfl
theorem h2_1 : tab r2 1 = runD (tab r0) xDivisor := rfl
theorem h3_1 : tab r3 1 = runD (tab r0) xDivisor := rfl
theorem h4_1 : tab r4 1 = runD (tab r0) xDivisor := rfl
theorem h5_1 : tab r5 1 = runD (tab r0) xDivisor := rfl
theorem h6_1 : tab r6 1 = runD (tab r0) xDivisor := rfl
theorem h7_1 : tab r7 1 = runD (tab r0) xDivisor := rfl
theorem h8_1 : tab r8 1 = runD (tab r0) xDivisor := rfl
theorem h9_1 : tab r9 1 = runD (tab r0) xDivisor := rfl
theorem h10_1 : tab r10 1 = runD (tab r0) xDivisor := rfl
theorem h11_1 : tab r11 1 = runD (tab r0) xDivisor := rfl
theorem h12_1 : tab r12 1 = runD (tab r0) xDivisor := rfl
theorem h13_1 : tab r13 1 = runD (tab r0) xDivisor := rfl
theorem h14_1 : tab r14 1 = runD (tab r0) xDivisor := rfl
theorem h15_1 : tab r15 1 = runD (tab r0) xDivisor := rfl
theorem h16_1 : tab r16 1 = runD (tab r0) xDivisor := rfl
theorem h17_1 : tab r17 1 = runD (tab r0) xDivisor := rfl
theorem h2_2 : tab r2 2 = runD (tab r1) (xFraction 1) := rfl
theorem h3_2 : tab r3 2 = runD (tab r1) (xFraction 1) := rfl
theorem h4_2 : tab r4 2 = runD (tab r1) (xFraction 1) := rfl
theorem h5_2 : tab r5 2 = runD (tab r1) (xFraction 1) := rfl
theorem h6_2 : tab r6 2 = runD (tab r1) (xFraction 1) := rfl
theorem h7_2 : tab r7 2 = runD (tab r1) (xFraction 1) := rfl
theorem h8_2 : tab r8 2 = runD (tab r1) (xFraction 1) := rfl
theorem h9_2 : tab r9 2 = runD (tab r1) (xFraction 1) := rfl
theorem h10_2 : tab r10 2 = runD (tab r1) (xFraction 1) := rfl
theorem h11_2 : tab r11 2 = runD (tab r1) (xFraction 1) := rfl
theorem h12_2 : tab r12 2 = runD (tab r1) (xFraction 1) := rfl
theorem h13_2 : tab r13 2 = runD (tab r1) (xFraction 1) := rfl
theorem h14_2 : tab r14 2 = runD (tab r1) (xFraction 1) := rfl
theorem h15_2 : tab r15 2 = runD (tab r1) (xFraction 1) := rfl
theorem h16_2 : tab r16 2 = runD (tab r1) (xFraction 1) := rfl
theorem h17_2 : tab r17 2 = runD (tab r1) (xFraction 1) := rfl
theorem h3_3 : tab r3 3 = runD (tab r2) xIsLess := rfl
theorem h4_3 : tab r4 3 = runD (tab r2) xIsLess := rfl
theorem h5_3 : tab r5 3 = runD (tab r2) xIsLess := rfl
theorem h6_3 : tab r6 3 = runD (tab r2) xIsLess := rfl
theorem h7_3 : tab r7 3 = runD (tab r2) xIsLess := rfl
theorem h8_3 : tab r8 3 = runD (tab r2) xIsLess := rfl
theorem h9_3 : tab r9 3 = runD (tab r2) xIsLess := rfl
theorem h10_3 : tab r10 3 = runD (tab r2) xIsLess := rfl
theorem h11_3 : tab r11 3 = runD (tab r2) xIsLess := rfl
theorem h12_3 : tab r12 3 = runD (tab r2) xIsLess := rfl
theorem h13_3 : tab r13 3 = runD (tab r2) xIsLess := rfl
theorem h14_3 : tab r14 3 = runD (tab r2) xIsLess := rfl
theorem h15_3 : tab r15 3 = runD (tab r2) xIsLess := rfl
theorem h16_3 : tab r16 3 = runD (tab r2) xIsLess := rfl
theorem h17_3 : tab r17 3 = runD (tab r2) xIsLess := rfl
theorem h4_25 : tab r4 25 = runD (tab r3) xDot := rfl
theorem h5_25 : tab r5 25 = runD (tab r3) xDot := rfl
theorem h6_25 : tab r6 25 = runD (tab r3) xDot := rfl
theorem h7_25 : tab r7 25 = runD (tab r3) xDot := rfl
theorem h8_25 : tab r8 25 = runD (tab r3) xDot := rfl
theorem h9_25 : tab r9 25 = runD (tab r3) xDot := rfl
theorem h10_25 : tab r10 25 = runD (tab r3) xDot := rfl
theorem h11_25 : tab r11 25 = runD (tab r3) xDot := rfl
theorem h12_25 : tab r12 25 = runD (tab r3) xDot := rfl
theorem h13_25 : tab r13 25 = runD (tab r3) xDot := rfl
theorem h14_25 : tab r14 25 = runD (tab r3) xDot := rfl
theorem h15_25 : tab r15 25 = runD (tab r3) xDot := rfl
theorem h16_25 : tab r16 25 = runD (tab r3) xDot := rfl
theorem h17_25 : tab r17 25 = runD (tab r3) xDot := rfl
theorem h5_26 : tab r5 26 = runD (tab r4) xCost := rfl
theorem h6_26 : tab r6 26 = runD (tab r4) xCost := rfl
theorem h7_26 : tab r7 26 = runD (tab r4) xCost := rfl
theorem h8_26 : tab r8 26 = runD (tab r4) xCost := rfl
theorem h9_26 : tab r9 26 = runD (tab r4) xCost := rfl
theorem h10_26 : tab r10 26 = runD (tab r4) xCost := rfl
theorem h11_26 : tab r11 26 = runD (tab r4) xCost := rfl
theorem h12_26 : tab r12 26 = runD (tab r4) xCost := rfl
theorem h13_26 : tab r13 26 = runD (tab r4) xCost := rfl
theorem h14_26 : tab r14 26 = runD (tab r4) xCost := rfl
theorem h15_26 : tab r15 26 = runD (tab r4) xCost := rfl
theorem h16_26 : tab r16 26 = runD (tab r4) xCost := rfl
theorem h17_26 : tab r17 26 = runD (tab r4) xCost := rfl
theorem h6_27 : tab r6 27 = runD (tab r5) xBoundsOf := rfl
theorem h7_27 : tab r7 27 = runD (tab r5) xBoundsOf := rfl
theorem h8_27 : tab r8 27 = runD (tab r5) xBoundsOf := rfl
theorem h9_27 : tab r9 27 = runD (tab r5) xBoundsOf := rfl
theorem h10_27 : tab r10 27 = runD (tab r5) xBoundsOf := rfl
theorem h11_27 : tab r11 27 = runD (tab r5) xBoundsOf := rfl
theorem h12_27 : tab r12 27 = runD (tab r5) xBoundsOf := rfl
theorem h13_27 : tab r13 27 = runD (tab r5) xBoundsOf := rfl
theorem h14_27 : tab r14 27 = runD (tab r5) xBoundsOf := rfl
theorem h15_27 : tab r15 27 = runD (tab r5) xBoundsOf := rfl
theorem h16_27 : tab r16 27 = runD (tab r5) xBoundsOf := rfl
theorem h17_27 : tab r17 27 = runD (tab r5) xBoundsOf := rfl
theorem h7_28 : tab r7 28 = runD (tab r6) xPenaltyRange := rfl
theorem h8_28 : tab r8 28 = runD (tab r6) xPenaltyRange := rfl
theorem h9_28 : tab r9 28 = runD (tab r6) xPenaltyRange := rfl
theorem h10_28 : tab r10 28 = runD (tab r6) xPenaltyRange := rfl
theorem h11_28 : tab r11 28 = runD (tab r6) xPenaltyRange := rfl
theorem h12_28 : tab r12 28 = runD (tab r6) xPenaltyRange := rfl
theorem h13_28 : tab r13 28 = runD (tab r6) xPenaltyRange := rfl
theorem h14_28 : tab r14 28 = runD (tab r6) xPenaltyRange := rfl
theorem h15_28 : tab r15 28 = runD (tab r6) xPenaltyRange := rfl
theorem h16_28 : tab r16 28 = runD (tab r6) xPenaltyRange := rfl
theorem h17_28 : tab r17 28 = runD (tab r6) xPenaltyRange := rfl
theorem h8_6 : tab r8 6 = runD (tab r7) xDeck := rfl
theorem h9_6 : tab r9 6 = runD (tab r7) xDeck := rfl
theorem h10_6 : tab r10 6 = runD (tab r7) xDeck := rfl
theorem h11_6 : tab r11 6 = runD (tab r7) xDeck := rfl
theorem h12_6 : tab r12 6 = runD (tab r7) xDeck := rfl
theorem h13_6 : tab r13 6 = runD (tab r7) xDeck := rfl
theorem h14_6 : tab r14 6 = runD (tab r7) xDeck := rfl
theorem h15_6 : tab r15 6 = runD (tab r7) xDeck := rfl
theorem h16_6 : tab r16 6 = runD (tab r7) xDeck := rfl
theorem h17_6 : tab r17 6 = runD (tab r7) xDeck := rfl
theorem h9_7 : tab r9 7 = runD (tab r8) xDraw := rfl
theorem h10_7 : tab r10 7 = runD (tab r8) xDraw := rfl
theorem h11_7 : tab r11 7 = runD (tab r8) xDraw := rfl
theorem h12_7 : tab r12 7 = runD (tab r8) xDraw := rfl
theorem h13_7 : tab r13 7 = runD (tab r8) xDraw := rfl
theorem h14_7 : tab r14 7 = runD (tab r8) xDraw := rfl
theorem h15_7 : tab r15 7 = runD (tab r8) xDraw := rfl
theorem h16_7 : tab r16 7 = runD (tab r8) xDraw := rfl
theorem h17_7 : tab r17 7 = runD (tab r8) xDraw := rfl
theorem h10_8 : tab r10 8 = runD (tab r9) (xPick 7) := rfl
theorem h11_8 : tab r11 8 = runD (tab r9) (xPick 7) := rfl
theorem h12_8 : tab r12 8 = runD (tab r9) (xPick 7) := rfl
theorem h13_8 : tab r13 8 = runD (tab r9) (xPick 7) := rfl
theorem h14_8 : tab r14 8 = runD (tab r9) (xPick 7) := rfl
theorem h15_8 : tab r15 8 = runD (tab r9) (xPick 7) := rfl
theorem h16_8 : tab r16 8 = runD (tab r9) (xPick 7) := rfl
theorem h17_8 : tab r17 8 = runD (tab r9) (xPick 7) := rfl
theorem h11_9 : tab r11 9 = runD (tab r10) (xLawWeights 7 8) := rfl
theorem h12_9 : tab r12 9 = runD (tab r10) (xLawWeights 7 8) := rfl
theorem h13_9 : tab r13 9 = runD (tab r10) (xLawWeights 7 8) := rfl
theorem h14_9 : tab r14 9 = runD (tab r10) (xLawWeights 7 8) := rfl
theorem h15_9 : tab r15 9 = runD (tab r10) (xLawWeights 7 8) := rfl
theorem h16_9 : tab r16 9 = runD (tab r10) (xLawWeights 7 8) := rfl
theorem h17_9 : tab r17 9 = runD (tab r10) (xLawWeights 7 8) := rfl
theorem h12_29 : tab r12 29 = runD (tab r11) xLawMarket := rfl
theorem h13_29 : tab r13 29 = runD (tab r11) xLawMarket := rfl
theorem h14_29 : tab r14 29 = runD (tab r11) xLawMarket := rfl
theorem h15_29 : tab r15 29 = runD (tab r11) xLawMarket := rfl
theorem h16_29 : tab r16 29 = runD (tab r11) xLawMarket := rfl
theorem h17_29 : tab r17 29 = runD (tab r11) xLawMarket := rfl
theorem h13_30 : tab r13 30 = runD (tab r12) xLawCost := rfl
theorem h14_30 : tab r14 30 = runD (tab r12) xLawCost := rfl
theorem h15_30 : tab r15 30 = runD (tab r12) xLawCost := rfl
theorem h16_30 : tab r16 30 = runD (tab r12) xLawCost := rfl
theorem h17_30 : tab r17 30 = runD (tab r12) xLawCost := rfl
theorem h14_10 : tab r14 10 = runD (tab r13) xLawDivisor := rfl
theorem h15_10 : tab r15 10 = runD (tab r13) xLawDivisor := rfl
theorem h16_10 : tab r16 10 = runD (tab r13) xLawDivisor := rfl
theorem h17_10 : tab r17 10 = runD (tab r13) xLawDivisor := rfl
theorem h15_11 : tab r15 11 = runD (tab r14) (xLowest 10) := rfl
theorem h16_11 : tab r16 11 = runD (tab r14) (xLowest 10) := rfl
theorem h17_11 : tab r17 11 = runD (tab r14) (xLowest 10) := rfl
theorem h16_31 : tab r16 31 = runD (tab r15) xLawSights := rfl
theorem h17_31 : tab r17 31 = runD (tab r15) xLawSights := rfl
theorem h17_32 : tab r17 32 = runD (tab r16) xLawDueRange := rfl
abbrev lw : PySem.W.OpenLaw := PySem.Challenge.rw_ratherroad_k33_penalties
abbrev R : PySem.W.OpenRow := PySem.W.OpenLaw.row lw
def fa : List He.Fa := faOf tb (eLaw :: r17)
def fn : List He.DefD := (eLaw :: r17).map En.dd
abbrev hk : PySem.W.Hook := hookM 4 fa fn
def ob (s : PySem.W.SharedT) : AlM := obsM 4 fa fn (HandSHeadRun.getT s)
theorem ob_eq (s : PySem.W.SharedT) : ob s = hk.obs s.abs := obsM_eq (HandSHeadRun.getT_eq s)
theorem run (w : World) : HandSHeadRun.RunEq R (PySem.W.view R.prog [21]) hk ob 900 ["divisor", "fraction", "is_less", "dot", "cost", "bounds_of", "penalty_range", "_law_deck", "_law_draw", "_law_pick", "_law_weights", "_law_market", "_law_cost", "_law_divisor", "_law_lowest", "_law_sights", "_law_due_range"] w := by
  intro os
  kernel_rfl
theorem plainF (ns : List Int) (hl : ns.length ≤ 63) : ∃ S', runD (tab r17) eLaw.d [.scr (ns.map Tv.int)] [] = .ok (.bl true) S' := by
  rw [hL]
  exact k33_law (cf := tab r17) (deck_dk h17_6 hl) h17_7
    (fun S b m d hm hb => by rw [h17_9]; exact weights_ok h10_7 h10_8 h9_7 d hm hb)
    (sights_of h17_31 h15_7 h15_8 h9_7 h15_29 h11_7 h11_8 h9_7 h15_30)
    (range_of h17_28 h6_27 h5_26 h4_25 h6_3 h6_2 h1_1)
    (due_of h17_32 h16_30 h16_11 h14_10)
end Mk
open PySem PySem.W PySem.Calls PyProof.Rows
theorem head_ (law : ∀ ns : List Int, ns.length ≤ 63 → (∀ k ∈ ns, Builtin.Int.intBits k ≤ 1048576) → ∃ S', Mp.runD (Mp.tab Mk.r17) Mk.eLaw.d [.scr (ns.map Mp.Tv.int)] [] = .ok (.bl true) S') : Mk.lw.Holds := by
  w_on; o_law
  refine HandSHeadRun.head_any (r := Mk.R) (q := view Mk.R.prog [21]) (H := Mk.hk) (ob := Mk.ob) (M := 900) (loose := ["divisor", "fraction", "is_less", "dot", "cost", "bounds_of", "penalty_range", "_law_deck", "_law_draw", "_law_pick", "_law_weights", "_law_market", "_law_cost", "_law_divisor", "_law_lowest", "_law_sights", "_law_due_range"]) (d := HandSHeadRun.topDef Mk.R.prog 21) (kwd := []) Mk.ob_eq
    (by kernel_rfl) (fun s => by kernel_rfl) Mk.run (by kernel_rfl) (by kernel_rfl) (by kernel_rfl) (by rfl) (by first | assumption | decide +kernel) (by decide +kernel) ⟨rfl, rfl, rfl, rfl, rfl, by decide +kernel⟩ ?hw ?hc
  case hw => w_witness2
  case hc => exact Mp.walkM (l := Mk.lw) (n := 63) (x := "_law_script") (e := Mk.eLaw) (r := Mk.r17) (T := Mk.tb) rfl (by decide) (by kernel_rfl) ⟨rfl, by decide, by decide⟩ rfl (by kernel_rfl) Mk.ab Mk.okk (by decide) (by decide) law
theorem PySem.Challenge.cw_ratherroad_k33_penalties_holds : PySem.Challenge.rw_ratherroad_k33_penalties.Holds :=
  head_ fun ns h _ => Mk.plainF ns h
