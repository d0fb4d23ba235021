import PyProof.Rows.All
import Wide.All
import OpenK.AllK
import Wide.FinOn
import HandS.Base
import HandS.Call
import HandS.List
import HandS.Comp
import HandS.Iter
import HandS.Text
import HandS.Dict
import HandS.ExcOwn
import HandS.Exc
import HandS.ForMost
import HandS.Wide
import HandS.WideBits
import HandS.CallSlots
import HandS.IsInst
import KE.KTupSum
import KE.DatumOrd
import PyProof.ReprRoads
import PyProof.ReprBulk
import HandS.TupAny
import HandS.TupMul
import HandS.Deep
import HandS.Style
import HandS.Flow
import HandS.Lambda
import HandS.Zip
import KE.GoesEnum
import KE.GoesMore
import HandS.WordsExc
import HandS.Property
import HandS.MakeKwOnly
import HandS.SortKw
import HandS.Conv
import HandS.ExcIs
import HandS.HeadHook2
import PyProof.ExcBaseAll.ValueError
import HandS.SortRule
import HandS.TupSets
import HandS.SetFor
import HandS.Strs
import HandS.Defaults
import HandS.MakeKw
import HandS.Ends
import HandS.EndBits
import HandS.HeadEnd
import KE.KStateDown
import HandS.Head0
import HandS.Head1
import HandS.Head2
import PySem.Challenge.RW_ratherroad_k08_what_is_no_map
set_option Elab.async false
set_option linter.all false
set_option maxRecDepth 100000
set_option maxHeartbeats 4000000
namespace Mp
open PySem
/-- tree values; cell: a place in the store -/
inductive Tv where
  | non | bl (b : Bool) | int (i : Int) | str (s : Str)
  | tup (ts : List Tv) | lst (ts : List Tv) | dct | scr (ts : List Tv)
  | ins (c : Nat) (fs : List Tv)
  | cell (n : Nat)
/-- what stands in the store -/
inductive Ob where
  | lst (ts : List Tv) | ins (c : Nat) (fs : List Tv) | dct (kvs : List (Tv × Tv))
mutual
def Tv.beq : Tv → Tv → Bool
  | .non, .non => true
  | .bl a, .bl b => a == b
  | .int a, .int b => decide (a = b)
  | .str a, .str b => decide (a = b)
  | .tup a, .tup b => Tv.beqs a b
  | .lst a, .lst b => Tv.beqs a b
  | .dct, .dct => true
  | .scr a, .scr b => Tv.beqs a b
  | .ins c a, .ins d b => decide (c = d) && Tv.beqs a b
  | .cell a, .cell b => decide (a = b)
  | _, _ => false
def Tv.beqs : List Tv → List Tv → Bool
  | [], [] => true
  | a :: r, b :: s => Tv.beq a b && Tv.beqs r s
  | _, _ => false
end
mutual
theorem Tv.beq_eq : ∀ (a b : Tv), Tv.beq a b = true → a = b
  | .non, b, h => by cases b <;> simp [Tv.beq] at h ⊢
  | .bl _, b, h => by cases b <;> simp [Tv.beq] at h ⊢; exact h
  | .int _, b, h => by cases b <;> simp [Tv.beq] at h ⊢; exact h
  | .str _, b, h => by cases b <;> simp [Tv.beq] at h ⊢; exact h
  | .tup a, b, h => by
    cases b <;> simp [Tv.beq] at h ⊢
    exact Tv.beqs_eq _ _ h
  | .lst a, b, h => by
    cases b <;> simp [Tv.beq] at h ⊢
    exact Tv.beqs_eq _ _ h
  | .dct, b, h => by cases b <;> simp [Tv.beq] at h ⊢
  | .scr a, b, h => by
    cases b <;> simp [Tv.beq] at h ⊢
    exact Tv.beqs_eq _ _ h
  | .ins _ a, b, h => by
    cases b <;> simp [Tv.beq] at h ⊢
    exact ⟨h.1, Tv.beqs_eq _ _ h.2⟩
  | .cell _, b, h => by cases b <;> simp [Tv.beq] at h ⊢; exact h
theorem Tv.beqs_eq : ∀ (a b : List Tv), Tv.beqs a b = true → a = b
  | [], b, h => by cases b <;> simp [Tv.beqs] at h ⊢
  | x :: r, b, h => by
    cases b <;> simp [Tv.beqs] at h ⊢
    exact ⟨Tv.beq_eq _ _ h.1, Tv.beqs_eq _ _ h.2⟩
end
mutual
theorem Tv.beq_self : ∀ (a : Tv), Tv.beq a a = true
  | .non => rfl
  | .bl _ => by simp [Tv.beq]
  | .int _ => by simp [Tv.beq]
  | .str _ => by simp [Tv.beq]
  | .tup a => by simp only [Tv.beq]; exact Tv.beqs_self a
  | .lst a => by simp only [Tv.beq]; exact Tv.beqs_self a
  | .dct => rfl
  | .scr a => by simp only [Tv.beq]; exact Tv.beqs_self a
  | .ins _ a => by simp [Tv.beq]; exact Tv.beqs_self a
  | .cell _ => by simp [Tv.beq]
theorem Tv.beqs_self : ∀ (a : List Tv), Tv.beqs a a = true
  | [] => rfl
  | x :: r => by simp only [Tv.beqs, Tv.beq_self x, Tv.beqs_self r, Bool.and_self]
end
instance : DecidableEq Tv := fun a b =>
  if h : Tv.beq a b = true then isTrue (Tv.beq_eq a b h) else isFalse fun e => h (by subst e; exact Tv.beq_self a)
def Ob.beq : Ob → Ob → Bool
  | .lst a, .lst b => decide (a = b)
  | .ins c a, .ins d b => decide (c = d) && decide (a = b)
  | .dct a, .dct b => decide (a = b)
  | _, _ => false
instance : DecidableEq Ob := fun a b =>
  if h : Ob.beq a b = true then isTrue (by cases a <;> cases b <;> simp [Ob.beq] at h ⊢ <;> exact h)
  else isFalse fun e => h (by subst e; cases a <;> simp [Ob.beq])
abbrev Sto := List Ob
abbrev Env := List (Option Tv)
/-- an expression's result: a value, an error (its class, its fields), nothing told -/
inductive Rs (α : Type) where
  | ok (a : α) (S : Sto) | ex (c : Nat) (fs : List Tv) (S : Sto) | bad
abbrev M (α : Type) := Sto → Rs α
@[reducible] def ret {α : Type} (a : α) : M α := fun S => .ok a S
@[reducible] def bad {α : Type} : M α := fun _ => .bad
def Rs.bnd {α β : Type} (r : Rs α) (f : α → M β) : Rs β :=
  match r with
  | .ok a S => f a S
  | .ex c fs S => .ex c fs S
  | .bad => .bad
def bnd {α β : Type} (m : M α) (f : α → M β) : M β := fun S => (m S).bnd f
def opt {α : Type} : Option α → M α
  | some a => ret a
  | none => bad
/-! ### the text -/
inductive Bo where | add | sub | mul | fdiv | mod | pow
  deriving DecidableEq
inductive Co where | eq | ne | lt | le | gt | ge | isin | notin
  deriving DecidableEq
/-- built-ins by value -/
inductive Pr where | len | tuple | int | abs | sum | max | min | max2 | min2 | minD | all | any | repr | str
  deriving DecidableEq
inductive Kd where | int | bool | tuple | str | list | cls (c : Nat)
  deriving DecidableEq
inductive Tg where | v (i : Nat) | tup (ts : List Tg)
mutual
inductive Ex where
  | nop | var (i : Nat) | int (i : Int) | str (s : Str) | bl (b : Bool) | non
  | gl (x : Str) (t : Tv)
  | bin (o : Bo) (a b : Ex) | neg (a : Ex)
  | cmp (o : Co) (a b : Ex) | chain (o p : Co) (a b c : Ex)
  | isC (ng : Bool) (a : Ex) (c : Option Bool)
  | bop (an : Bool) (es : List Ex) | nt (a : Ex) | ite (c a b : Ex)
  | tup (es : List Ex)
  | fz (l : Lx) | mu (l : Lx)
  | call (f : Nat) (es : List Ex)
  | prim (p : Pr) (es : List Ex)
  | isi (a : Ex) (k : Kd)
  | ix (a i : Ex) | sl (a lo hi : Ex) | rev (a : Ex)
  | pop (a : Ex) | popAt (a i : Ex) | app (a e : Ex)
  | att (c i : Nat) (a : Ex) | prop (c f : Nat) (a : Ex) | mk (c n f : Nat) (es ks : List Ex)
  | wall | minD (a d : Ex)
  | mkd (c n f : Nat) (es ks : List Ex) (pk : List (Nat × Nat)) (ds : List (List Int)) | revT (a : Ex) | dct0
inductive Lx where
  | disp (es : List Ex)
  | comp (own : List Nat) (elt : Ex) (tg : Tg) (it : Ix) (c : Ex)
  | ofSeq (a : Ex)
  | cut (a lo hi : Ex)
  | rngL (a : Ex)
  | cat (a b : Ex)
  | comp2 (own own2 : List Nat) (elt : Ex) (tg : Tg) (it : Ix) (c : Ex) (tg2 : Tg) (it2 : Ix) (c2 : Ex)
  | srt (a : Ex)
  | srtS (a : Ex)
inductive Ix where
  | seq (a : Ex) | rng (a : Ex) | rng2 (a b : Ex) | zip (a b : Ex) | enum (a : Ex)
end
inductive Sx where
  | asg (t : Tg) (e : Ex)
  | drop (e : Ex)
  | setIx (a i e : Ex)
  | ifS (c : Ex) (a b : List Sx)
  | whileS (c : Ex) (a : List Sx)
  | forS (t : Tg) (it : Ix) (a : List Sx)
  | ret (e : Ex)
  | brk | cont | pass
  | setAtt (c i : Nat) (a e : Ex) | raiseS
  | raiseE (c : Nat)
  | tryE (a : List Sx) (i v : Nat) (x y : Str) (sub : List (Nat × Bool)) (s1 s2 : Str)
/-- a statement's end -/
inductive Sr where
  | nx (env : Env) (S : Sto) | rt (t : Tv) (S : Sto) | bk (env : Env) (S : Sto) | ct (env : Env) (S : Sto)
  | ex (c : Nat) (fs : List Tv) (env : Env) (S : Sto) | bad
/-! ### values -/
def lstOf (S : Sto) : Tv → Option (List Tv)
  | .lst ts => some ts
  | .cell n => match S[n]? with
    | some (.lst ts) => some ts
    | _ => none
  | _ => none
def seqOf (S : Sto) : Tv → Option (List Tv)
  | .tup ts => some ts
  | .lst ts => some ts
  | .cell n => match S[n]? with
    | some (.lst ts) => some ts
    | _ => none
  | _ => none
@[irreducible] def lim : Nat := 1000000
def addV (S : Sto) : Tv → Tv → Option Tv
  | .int i, .int j => some (.int (i + j))
  | .str x, .str y => if x.length + y.length ≤ lim then some (.str (x ++ y)) else none
  | .tup x, .tup y => if x.length + y.length ≤ lim then some (.tup (x ++ y)) else none
  | .lst x, .lst y => if x.length + y.length ≤ lim then some (.lst (x ++ y)) else none
  | .cell n, y => match lstOf S (.cell n), lstOf S y with
    | some u, some v => if u.length + v.length ≤ lim then some (.lst (u ++ v)) else none
    | _, _ => none
  | .lst x, y => match lstOf S y with
    | some v => if x.length + v.length ≤ lim then some (.lst (x ++ v)) else none
    | _ => none
  | _, _ => none
def rep {α : Type} (k : Nat) (xs : List α) : List α := (List.replicate k xs).flatten
def mulV : Tv → Tv → Option Tv
  | .int i, .int j => if i.natAbs.log2 + j.natAbs.log2 < 1000000 then some (.int (i * j)) else none
  | .tup x, .int j => if 1 ≤ j ∧ j ≤ 1000 ∧ x.length ≤ 1000 ∧ x ≠ [] then some (.tup (rep j.toNat x)) else none
  | .lst x, .int j => if 0 ≤ j ∧ j ≤ 1000 ∧ x.length ≤ 1000 then some (.lst (rep j.toNat x)) else none
  | _, _ => none
def binV (o : Bo) (S : Sto) (a b : Tv) : Option Tv :=
  match o with
  | .add => addV S a b
  | .mul => mulV a b
  | .sub => match a, b with
    | .int i, .int j => some (.int (i - j))
    | _, _ => none
  | .fdiv => match a, b with
    | .int i, .int j => if 0 < j ∧ j.natAbs.log2 < 9000 then some (.int (i / j)) else none
    | _, _ => none
  | .mod => match a, b with
    | .int i, .int j => if 0 < j then some (.int (i % j)) else none
    | _, _ => none
  | .pow => match a, b with
    | .int i, .int j => if 0 ≤ j ∧ j ≤ 1000000 ∧ i.natAbs < 2 ^ 64 then some (.int (i ^ j.toNat)) else none
    | _, _ => none
mutual
/-- data that == takes: depth at most k, no dict, no object -/
def Tv.dOk : Nat → Tv → Bool
  | _, .non => true
  | _, .bl _ => true
  | _, .int _ => true
  | _, .str x => PyData.canLay0 (.str x)
  | k + 1, .tup ts => Tv.dOks k ts
  | k + 1, .lst ts => Tv.dOks k ts
  | _, _ => false
def Tv.dOks : Nat → List Tv → Bool
  | _, [] => true
  | k, t :: r => Tv.dOk k t && Tv.dOks k r
end
mutual
def Tv.eqb : Tv → Tv → Bool
  | .non, .non => true
  | .bl a, .bl b => a == b
  | .bl a, .int j => (if a then 1 else 0) == j
  | .int i, .bl b => i == (if b then 1 else 0)
  | .int i, .int j => i == j
  | .str x, .str y => x == y
  | .lst xs, .lst ys => Tv.eqbs xs ys
  | .tup xs, .tup ys => Tv.eqbs xs ys
  | _, _ => false
def Tv.eqbs : List Tv → List Tv → Bool
  | [], [] => true
  | x :: xs, y :: ys => Tv.eqb x y && Tv.eqbs xs ys
  | _, _ => false
end
/-- a list in the store as the list that it is -/
def thaw (S : Sto) : Tv → Option Tv
  | .cell n => match S[n]? with
    | some (.lst ts) => some (.lst ts)
    | _ => none
  | t => some t
def eqS0 (S : Sto) (a b : Tv) : Option Bool :=
  match thaw S a, thaw S b with
  | some x, some y => if Tv.dOk 16 x = true ∧ Tv.dOk 16 y = true then some (Tv.eqb x y) else none
  | _, _ => none
/-- two texts are looked at as they are -/
def eqS (S : Sto) (a b : Tv) : Option Bool :=
  match a, b with
  | .str x, .str y => some (x == y)
  | _, _ => eqS0 S a b
def flatT : Tv → Bool
  | .non => true
  | .bl _ => true
  | .int _ => true
  | .str _ => true
  | _ => false
def inL : Option Tv → Option (List Tv) → Option Bool
  | some x, some ys => if Tv.dOk 16 x = true ∧ Tv.dOks 16 ys = true then some (ys.any fun y => Tv.eqb y x) else none
  | _, _ => none
def inS (S : Sto) (a b : Tv) : Option Bool :=
  match b with
  | .str z => match a with
    | .str x => if x.cps.size = 1 then some (decide (x.cps.getD 0 0 ∈ z.cps.toList)) else none
    | _ => none
  | .tup ys => if flatT a = true ∧ ys.all flatT = true then some (ys.any fun y => Tv.eqb y a) else none
  | t => inL (thaw S a) (lstOf S t)
def cmpV (o : Co) (S : Sto) (a b : Tv) : Option Bool :=
  match o with
  | .eq => eqS S a b
  | .ne => (eqS S a b).map (!·)
  | .isin => inS S a b
  | .notin => (inS S a b).map (!·)
  | .lt => match a, b with
    | .int i, .int j => some (decide (i < j))
    | _, _ => none
  | .le => match a, b with
    | .int i, .int j => some (decide (i ≤ j))
    | _, _ => none
  | .gt => match a, b with
    | .int i, .int j => some (decide (j < i))
    | _, _ => none
  | .ge => match a, b with
    | .int i, .int j => some (decide (j ≤ i))
    | _, _ => none
def truth (S : Sto) : Tv → Option Bool
  | .non => some false
  | .bl b => some b
  | .int i => some (i != 0)
  | .tup ts => some (!ts.isEmpty)
  | t => (lstOf S t).map fun ts => !ts.isEmpty
/-- x is c: None, True, False -/
def isCV (c : Option Bool) (x : Tv) : Option Bool := match c with
  | none => match x with
    | .non => some true
    | _ => some false
  | some b => match x with
    | .bl k => some (decide (k = b))
    | _ => none
def intsOf : List Tv → Option (List Int)
  | [] => some []
  | .int i :: r => (intsOf r).map (i :: ·)
  | _ => none
def blsOf : List Tv → Option (List Bool)
  | [] => some []
  | .bl i :: r => (blsOf r).map (i :: ·)
  | _ => none
def mostOf : List Int → Int
  | [] => 0
  | x :: xs => xs.foldl (fun a y => if decide (a < y) = true then y else a) x
def leastOf : List Int → Int
  | [] => 0
  | x :: xs => xs.foldl (fun a y => if decide (y < a) = true then y else a) x
mutual
/-- what repr shows -/
def Tv.shown : Tv → Str
  | .non => "None"
  | .bl b => if b then "True" else "False"
  | .int i => toString i
  | .str x => reprText x
  | .lst ts => listText (Tv.showns ts)
  | .tup ts => tupleText (Tv.showns ts)
  | .dct => "{}"
  | _ => ""
def Tv.showns : List Tv → List Str
  | [] => []
  | t :: r => Tv.shown t :: Tv.showns r
end
mutual
def Tv.rOk : Nat → Tv → Bool
  | _, .non => true
  | _, .bl _ => true
  | _, .int i => decide (i.natAbs.log2 < 1920)
  | _, .str x => x.cps.toList.all fun c => decide (c < 16 ^ 8)
  | _, .dct => true
  | k + 1, .tup ts => Tv.rOks k ts
  | k + 1, .lst ts => Tv.rOks k ts
  | _, _ => false
def Tv.rOks : Nat → List Tv → Bool
  | _, [] => true
  | k, t :: r => Tv.rOk k t && Tv.rOks k r
end
mutual
def Tv.bulk : Tv → Nat
  | .str x => x.length
  | .tup ts => Tv.bulks ts
  | .lst ts => Tv.bulks ts
  | _ => 0
def Tv.bulks : List Tv → Nat
  | [] => 0
  | t :: r => Tv.bulk t + 1 + Tv.bulks r
end
def reprV (S : Sto) (a : Tv) : Option Tv :=
  match thaw S a with
  | some x => if Tv.rOk 16 x = true ∧ Tv.bulk x ≤ 20000 then some (.str (Tv.shown x)) else none
  | none => none
def lenV (S : Sto) : Tv → Option Tv
  | .str x => if x.length ≤ lim then some (.int x.length) else none
  | t => (seqOf S t).map fun ts => .int ts.length
def primV (p : Pr) (S : Sto) (as : List Tv) : Option Tv :=
  match p, as with
  | .len, [a] => lenV S a
  | .tuple, [a] => (seqOf S a).map .tup
  | .int, [.int i] => some (.int i)
  | .int, [.bl b] => some (.int (if b then 1 else 0))
  | .abs, [.int i] => some (.int (if i < 0 then -i else i))
  | .sum, [a] => (seqOf S a).bind fun ts => (intsOf ts).map fun ns => .int ns.sum
  | .max, [a] => (seqOf S a).bind fun ts => match intsOf ts with
    | some (n :: r) => some (.int (mostOf (n :: r)))
    | _ => none
  | .min, [a] => (seqOf S a).bind fun ts => match intsOf ts with
    | some (n :: r) => some (.int (leastOf (n :: r)))
    | _ => none
  | .minD, [a] => (seqOf S a).bind fun ts => match intsOf ts with
    | some (n :: r) => some (.int (leastOf (n :: r)))
    | some [] => some (.int 0)
    | _ => none
  | .max2, [.int i, .int j] => some (.int (if j > i then j else i))
  | .min2, [.int i, .int j] => some (.int (if j < i then j else i))
  | .all, [a] => (lstOf S a).bind fun ts => (blsOf ts).map fun bs => .bl (bs.all id)
  | .any, [a] => (lstOf S a).bind fun ts => (blsOf ts).map fun bs => .bl (bs.any id)
  | .repr, [a] => reprV S a
  | .str, [.int i] => if i.natAbs.log2 < 1920 then some (.str (toString i)) else none
  | _, _ => none
/-- min(a, default=d) -/
def minDV (S : Sto) (x y : Tv) : Option Tv := (lstOf S x).bind fun ts => (intsOf ts).map fun ns => match ns with
  | [] => y
  | n :: r => .int (leastOf (n :: r))
def isiV (k : Kd) (S : Sto) (a : Tv) : Option Bool :=
  match a with
  | .non => some false
  | .bl _ => some (decide (k = .int ∨ k = .bool))
  | .int _ => some (decide (k = .int))
  | .str _ => some (decide (k = .str))
  | .tup _ => some (decide (k = .tuple))
  | .lst _ => some (decide (k = .list))
  | .dct => some false
  | .scr _ => none
  | .ins c _ => some (decide (k = .cls c))
  | .cell n => match S[n]? with
    | some (.lst _) => some (decide (k = .list))
    | _ => none
def ixV (S : Sto) (a i : Tv) : Option Tv :=
  match i with
  | .int j => match a with
    | .str z => if z.length ≤ lim then (L2.atI z.cps.toList j).map fun c => .str ⟨#[c]⟩ else none
    | _ => (seqOf S a).bind fun ts => L2.atI ts j
  | _ => none
def cutL {α : Type} (xs : List α) (lo hi : Option Int) : List α := (xs.drop (HT.sIx xs.length 0 lo)).take (HT.sIx xs.length xs.length hi - HT.sIx xs.length 0 lo)
def slV (S : Sto) (a : Tv) (lo hi : Option Int) : Option Tv :=
  match a with
  | .tup ts => some (.tup (cutL ts lo hi))
  | .scr ts => some (.lst (cutL ts lo hi))
  | t => (lstOf S t).map fun ts => .lst (cutL ts lo hi)
/-- tuples of ints of any lengths, by their first difference -/
def lexN : List Int → List Int → Bool
  | [], [] => false
  | [], _ :: _ => true
  | _ :: _, [] => false
  | x :: xs, y :: ys => if x = y then lexN xs ys else decide (x < y)
/-- behind the last ones that are not after it -/
def insB {α : Type} (lt : α → α → Bool) (x : α) : List α → List α
  | [] => [x]
  | y :: l => if lt x y = true then x :: y :: l else y :: insB lt x l
def isort {α : Type} (lt : α → α → Bool) (l : List α) : List α := l.foldl (fun a x => insB lt x a) []
def keyT : Tv → List Int
  | .tup ts => (intsOf ts).getD []
  | _ => []
def isNT : Tv → Bool
  | .tup (u :: us) => (intsOf (u :: us)).isSome
  | _ => false
def ltT (a b : Tv) : Bool := lexN (keyT a) (keyT b)
def ltI (a b : Int) : Bool := decide (a < b)
/-- sorted -/
def srtLV (S : Sto) (x : Tv) : Option (List Tv) := (lstOf S x).bind fun ts => match intsOf ts with
  | some ns => some ((isort ltI ns).map Tv.int)
  | none => if ts.all isNT = true then some (isort ltT ts) else none
def oneEach : List Int → List Int
  | [] => []
  | x :: r => if x ∈ r then oneEach r else x :: oneEach r
/-- sorted of a set -/
def srtSV (S : Sto) (x : Tv) : Option (List Tv) := (lstOf S x).bind fun ts => (intsOf ts).bind fun ns => if ns.length < 60 then some ((isort ltI (oneEach ns)).map Tv.int) else none
/-- a list's piece, as a list of one's own -/
def cutLV (S : Sto) (x : Tv) (lo hi : Option Int) : Option (List Tv) := (lstOf S x).map fun ts => cutL ts lo hi
/-- two lists, one behind the other, as a list of one's own -/
def catLV (S : Sto) (x y : Tv) : Option (List Tv) := match lstOf S x, lstOf S y with
  | some u, some v => if u.length + v.length ≤ lim then some (u ++ v) else none
  | _, _ => none
def revV (S : Sto) : Tv → Option Tv
  | t => (lstOf S t).map fun ts => .lst ts.reverse
mutual
/-- no place of the store is named -/
def Tv.noCell : Tv → Bool
  | .tup ts => Tv.noCells ts
  | .lst ts => Tv.noCells ts
  | .scr ts => Tv.noCells ts
  | .ins _ ts => Tv.noCells ts
  | .cell _ => false
  | _ => true
def Tv.noCells : List Tv → Bool
  | [] => true
  | t :: r => Tv.noCell t && Tv.noCells r
end
/-! ### targets -/
mutual
def setTg : Tg → Tv → Env → Option Env
  | .v i, t, env => some (env.set i (some t))
  | .tup ts, t, env => match t with
    | .tup us => setTgs ts us env
    | _ => none
def setTgs : List Tg → List Tv → Env → Option Env
  | [], [], env => some env
  | g :: gs, t :: ts, env => match setTg g t env with
    | some e => setTgs gs ts e
    | none => none
  | _, _, _ => none
end
def wipeE (env : Env) : List Nat → Env
  | [] => env
  | v :: vs => (wipeE env vs).set v none
/-! ### going through -/
/-- the cells that are walked, as they must stay -/
def stays (w : List (Nat × List Tv)) (S : Sto) : Bool := w.all fun p => decide (S[p.1]? = some (.lst p.2))
def srcOf (S : Sto) (t : Tv) : Option (List Tv × List (Nat × List Tv)) :=
  match t with
  | .tup ts => some (ts, [])
  | .lst ts => some (ts, [])
  | .cell n => match S[n]? with
    | some (.lst ts) => some (ts, [(n, ts)])
    | _ => none
  | _ => none
def zipT : List Tv → List Tv → List Tv
  | x :: xs, y :: ys => .tup [x, y] :: zipT xs ys
  | _, _ => []
def enumT : Int → List Tv → List Tv
  | _, [] => []
  | i, x :: xs => .tup [.int i, x] :: enumT (i + 1) xs
def rngT (lo : Int) : Nat → List Tv
  | 0 => []
  | n + 1 => .int lo :: rngT (lo + 1) n
/-- nothing is told of an error here -/
def calmM {α : Type} (m : M α) : M α := fun S => match m S with
  | .ex _ _ _ => .bad
  | r => r
def compL (w : List (Nat × List Tv)) (tg : Tg) (env : Env) (c : Env → M Bool) (elt : Env → M Tv) : List Tv → M (List Tv)
  | [] => fun S => if stays w S then .ok [] S else .bad
  | t :: r => fun S => if stays w S then
      match setTg tg t env with
      | none => .bad
      | some e => bnd (calmM (c e)) (fun k => if k then bnd (calmM (elt e)) fun y => bnd (compL w tg env c elt r) fun ys => ret (y :: ys) else compL w tg env c elt r) S
    else .bad
/-- two generators: the inner one is told anew at each item of the outer one -/
def comp2L (w : List (Nat × List Tv)) (tg : Tg) (env : Env) (c : Env → M Bool) (inner : Env → M (List Tv)) : List Tv → M (List Tv)
  | [] => fun S => if stays w S then .ok [] S else .bad
  | t :: r => fun S => if stays w S then
      match setTg tg t env with
      | none => .bad
      | some e => bnd (calmM (c e)) (fun k => if k then bnd (calmM (inner e)) fun ys => bnd (comp2L w tg env c inner r) fun zs => ret (ys ++ zs) else comp2L w tg env c inner r) S
    else .bad
/-- what a call's arguments are made of: given ones, defaults, given ones by name -/
def pickL {α : Type} (pk : List (Nat × Nat)) (xs ds zs : List α) : List α := pk.filterMap fun p => match p.1 with
  | 0 => xs[p.2]?
  | 1 => ds[p.2]?
  | _ => zs[p.2]?
def dfT (ds : List (List Int)) : List Tv := ds.map fun ns => .tup (ns.map .int)
def forL (w : List (Nat × List Tv)) (tg : Tg) (body : Env → Sto → Sr) : List Tv → Env → Sto → Sr
  | [], env, S => if stays w S then .nx env S else .bad
  | t :: r, env, S => if stays w S then
      match setTg tg t env with
      | none => .bad
      | some e => match body e S with
        | .nx e S => forL w tg body r e S
        | .ct e S => forL w tg body r e S
        | .bk e S => .nx e S
        | .rt t S => .rt t S
        | .ex c fs e S => .ex c fs e S
        | .bad => .bad
    else .bad
def whileL (c : Env → M Bool) (body : Env → Sto → Sr) : Nat → Env → Sto → Sr
  | 0, _, _ => .bad
  | m + 1, env, S => match c env S with
    | .ok true S => match body env S with
      | .nx e S => whileL c body m e S
      | .ct e S => whileL c body m e S
      | .bk e S => .nx e S
      | .rt t S => .rt t S
      | .ex c fs e S => .ex c fs e S
      | .bad => .bad
    | .ok false S => .nx env S
    | .ex c fs S => .ex c fs env S
    | .bad => .bad
/-! ### what the text does -/
def varM (i : Nat) (env : Env) : M Tv := fun S => match env[i]? with
  | some (some t) => .ok t S
  | _ => .bad
structure Vt where
  v : Env → M Tv
  t : Env → M Bool
def truthM (t : Tv) : M Bool := fun S => opt (truth S t) S
def dflt (v : Env → M Tv) : Vt := ⟨v, fun env => bnd (v env) truthM⟩
def boolV (t : Env → M Bool) : Env → M Tv := fun env => bnd (t env) fun b => ret (.bl b)
/-- a list in the store -/
def needL (x : Tv) : M Nat := fun S => match x with
  | .cell n => match S[n]? with
    | some (.lst _) => .ok n S
    | _ => .bad
  | _ => .bad
def popL (x : Tv) : M Tv := fun S => match x with
  | .cell n => match S[n]? with
    | some (.lst ts) => match ts.getLast? with
      | some t => .ok t (S.set n (.lst ts.dropLast))
      | none => .bad
    | _ => .bad
  | _ => .bad
def popAtL (x j : Tv) : M Tv := fun S => match x, j with
  | .cell n, .int k => match S[n]? with
    | some (.lst ts) => if 0 ≤ k ∧ k < 1000000 then
        match ts[k.toNat]? with
        | some t => .ok t (S.set n (.lst (ts.eraseIdx k.toNat)))
        | none => .bad
      else .bad
    | _ => .bad
  | _, _ => .bad
def appL (x y : Tv) : M Tv := fun S => match x with
  | .cell n => match S[n]? with
    | some (.lst ts) => if ts.length < lim then .ok .non (S.set n (.lst (ts ++ [y]))) else .bad
    | _ => .bad
  | _ => .bad
/-- a field of an object -/
def attV (c i : Nat) : Tv → Option Tv
  | .ins d fs => if d = c then fs[i]? else none
  | _ => none
/-- a property: the getter at the object -/
def propM (c : Nat) (m : List Tv → M Tv) (x : Tv) : M Tv := fun S => match x with
  | .ins d fs => if d = c then (match m [.ins d fs] S with
    | .ok t S' => .ok t S'
    | _ => .bad) else .bad
  | _ => .bad
/-- an object is made: its def's work at a new place, the object frozen behind it -/
def mkM (c n : Nat) (m : List Tv → M Tv) (xs : List Tv) : M Tv := fun S => match m (.cell S.length :: xs) (S ++ [.ins c []]) with
  | .ok .non S' => match S'[S.length]? with
    | some (.ins d fs) => if (S'.take S.length = S ∧ d = c) ∧ fs.length = n ∧ Tv.noCells fs = true then .ok (.ins c fs) S else .bad
    | _ => .bad
  | _ => .bad
/-- a field is written: the next one, or one that is there -/
def setAttM (c i : Nat) (x t : Tv) (S : Sto) : Option Sto := match x with
  | .cell n => match S[n]? with
    | some (.ins d fs) => if d = c ∧ i ≤ fs.length then some (S.set n (.ins d (if i = fs.length then fs ++ [t] else fs.set i t))) else none
    | _ => none
  | _ => none
def alloc (o : Ob) : M Tv := fun S => .ok (.cell S.length) (S ++ [o])
mutual
def ev (cf : Nat → List Tv → M Tv) : Ex → Vt
  | .nop => ⟨fun _ => bad, fun _ => ret true⟩
  | .var i => dflt (varM i)
  | .int i => dflt fun _ => ret (.int i)
  | .str s => dflt fun _ => ret (.str s)
  | .bl b => dflt fun _ => ret (.bl b)
  | .non => dflt fun _ => ret .non
  | .gl _ t => dflt fun _ => ret t
  | .bin o a b => dflt fun env => bnd ((ev cf a).v env) fun x => bnd ((ev cf b).v env) fun y S => opt (binV o S x y) S
  | .neg a => dflt fun env => bnd ((ev cf a).v env) fun x => match x with
    | .int i => ret (.int (-i))
    | _ => bad
  | .cmp o a b =>
    let t : Env → M Bool := fun env => bnd ((ev cf a).v env) fun x => bnd ((ev cf b).v env) fun y S => opt (cmpV o S x y) S
    ⟨boolV t, t⟩
  | .chain o p a b c =>
    let t : Env → M Bool := fun env => bnd ((ev cf a).v env) fun x => bnd ((ev cf b).v env) fun y => bnd (fun S => opt (cmpV o S x y) S) fun k =>
      if k then bnd ((ev cf c).v env) fun z S => opt (cmpV p S y z) S else ret false
    ⟨boolV t, t⟩
  | .isC ng a c =>
    let t : Env → M Bool := fun env => bnd ((ev cf a).v env) fun x S => opt ((isCV c x).map fun k => if ng then !k else k) S
    ⟨boolV t, t⟩
  | .bop an es => ⟨evB cf an es, evT cf an es⟩
  | .nt a =>
    let t : Env → M Bool := fun env => bnd ((ev cf a).t env) fun b => ret (!b)
    ⟨fun env => bnd ((ev cf a).v env) fun x => bnd (truthM x) fun b => ret (.bl (!b)), t⟩
  | .ite c a b => ⟨fun env => bnd ((ev cf c).t env) fun k => if k then (ev cf a).v env else (ev cf b).v env,
      fun env => bnd ((ev cf c).t env) fun k => if k then (ev cf a).t env else (ev cf b).t env⟩
  | .tup es => dflt fun env => bnd (evs cf es env) fun xs => if xs.length ≤ lim then ret (.tup xs) else bad
  | .fz l => dflt fun env => bnd (evL cf l env) fun xs => ret (.lst xs)
  | .mu l => dflt fun env => bnd (evL cf l env) fun xs => alloc (.lst xs)
  | .call f es => dflt fun env => bnd (evs cf es env) fun xs => cf f xs
  | .prim p es => dflt fun env => bnd (evs cf es env) fun xs S => opt (primV p S xs) S
  | .isi a k =>
    let t : Env → M Bool := fun env => bnd ((ev cf a).v env) fun x S => opt (isiV k S x) S
    ⟨boolV t, t⟩
  | .ix a i => dflt fun env => bnd ((ev cf a).v env) fun x => bnd ((ev cf i).v env) fun j S => opt (ixV S x j) S
  | .sl a lo hi => dflt fun env => bnd ((ev cf a).v env) fun x => bnd (evEnd lo ((ev cf lo).v env)) fun l => bnd (evEnd hi ((ev cf hi).v env)) fun h S => opt (slV S x l h) S
  | .rev a => dflt fun env => bnd ((ev cf a).v env) fun x S => opt (revV S x) S
  | .pop a => dflt fun env => bnd ((ev cf a).v env) popL
  | .popAt a i => dflt fun env => bnd ((ev cf a).v env) fun x => bnd (needL x) fun _ => bnd ((ev cf i).v env) fun j => popAtL x j
  | .app a e => dflt fun env => bnd ((ev cf a).v env) fun x => bnd (needL x) fun _ => bnd ((ev cf e).v env) fun y => appL x y
  | .att c i a => dflt fun env => bnd ((ev cf a).v env) fun x S => opt (attV c i x) S
  | .prop c f a => dflt fun env => bnd ((ev cf a).v env) fun x => propM c (cf f) x
  | .mk c n f es ks => dflt fun env => bnd (evs cf es env) fun xs => bnd (evs cf ks env) fun ys => mkM c n (cf f) (xs ++ ys)
  | .wall => ⟨fun _ => bad, fun _ => bad⟩
  | .dct0 => dflt fun _ => ret .dct
  | .mkd c n f es ks pk ds => dflt fun env => bnd (evs cf es env) fun xs => bnd (evs cf ks env) fun ys => mkM c n (cf f) (pickL pk xs (dfT ds) ys)
  | .revT a => dflt fun env => bnd ((ev cf a).v env) fun x => match x with
    | .tup ts => ret (.tup ts.reverse)
    | _ => bad
  | .minD a d => dflt fun env => bnd ((ev cf a).v env) fun x => bnd ((ev cf d).v env) fun y S => opt (minDV S x y) S
def evEnd (e : Ex) (m : M Tv) : M (Option Int) := match e with
  | .nop => ret none
  | _ => bnd m fun x => match x with
    | .int i => ret (some i)
    | _ => bad
def evs (cf : Nat → List Tv → M Tv) : List Ex → Env → M (List Tv)
  | [], _ => ret []
  | e :: r, env => bnd ((ev cf e).v env) fun x => bnd (evs cf r env) fun xs => ret (x :: xs)
def evB (cf : Nat → List Tv → M Tv) (an : Bool) : List Ex → Env → M Tv
  | [], _ => bad
  | e :: r, env => match r with
    | [] => (ev cf e).v env
    | _ :: _ => bnd ((ev cf e).v env) fun x => bnd (truthM x) fun k => if k = an then evB cf an r env else ret x
def evT (cf : Nat → List Tv → M Tv) (an : Bool) : List Ex → Env → M Bool
  | [], _ => ret an
  | e :: r, env => bnd ((ev cf e).t env) fun k => if k = an then evT cf an r env else ret k
def evL (cf : Nat → List Tv → M Tv) : Lx → Env → M (List Tv)
  | .disp es, env => bnd (evs cf es env) fun xs => if xs.length ≤ lim then ret xs else bad
  | .comp own elt tg it c, env => bnd (evI cf it env) fun q => if q.1.length ≤ lim then compL q.2 tg (wipeE env own) (ev cf c).t (ev cf elt).v q.1 else bad
  | .ofSeq a, env => bnd ((ev cf a).v env) fun x S => opt (seqOf S x) S
  | .cut a lo hi, env => bnd ((ev cf a).v env) fun x => bnd (evEnd lo ((ev cf lo).v env)) fun l => bnd (evEnd hi ((ev cf hi).v env)) fun h S => opt (cutLV S x l h) S
  | .rngL a, env => bnd ((ev cf a).v env) fun x => match x with
    | .int i => if -1000000 < i ∧ i < 1000000 then ret (rngT 0 i.toNat) else bad
    | _ => bad
  | .cat a b, env => bnd ((ev cf a).v env) fun x => bnd ((ev cf b).v env) fun y S => opt (catLV S x y) S
  | .srt a, env => bnd ((ev cf a).v env) fun x S => opt (srtLV S x) S
  | .srtS a, env => bnd ((ev cf a).v env) fun x S => opt (srtSV S x) S
  | .comp2 own own2 elt tg it c tg2 it2 c2, env => bnd (evI cf it env) fun q => if q.1.length ≤ 1000 then comp2L q.2 tg (wipeE env own) (ev cf c).t
      (fun e => bnd (evI cf it2 e) fun q2 => if q2.1.length ≤ 1000 then compL q2.2 tg2 (wipeE e own2) (ev cf c2).t (ev cf elt).v q2.1 else bad) q.1 else bad
def evI (cf : Nat → List Tv → M Tv) : Ix → Env → M (List Tv × List (Nat × List Tv))
  | .seq a, env => bnd ((ev cf a).v env) fun x S => opt (srcOf S x) S
  | .rng a, env => bnd ((ev cf a).v env) fun x => match x with
    | .int i => if -1000000 < i ∧ i < 1000000 then ret (rngT 0 i.toNat, []) else bad
    | _ => bad
  | .rng2 a b, env => bnd ((ev cf a).v env) fun x => bnd ((ev cf b).v env) fun y => match x, y with
    | .int i, .int j => if (-1000000 < i ∧ i < 1000000) ∧ -1000000 < j ∧ j < 1000000 then ret (rngT i (j - i).toNat, []) else bad
    | _, _ => bad
  | .zip a b, env => bnd ((ev cf a).v env) fun x => bnd ((ev cf b).v env) fun y S => match srcOf S x, srcOf S y with
    | some (xs, u), some (ys, v) => .ok (zipT xs ys, u ++ v) S
    | _, _ => .bad
  | .enum a, env => bnd ((ev cf a).v env) fun x S => match srcOf S x with
    | some (xs, u) => .ok (enumT 0 xs, u) S
    | none => .bad
end
def srOf (r : Rs Tv) (env : Env) (f : Tv → Sto → Sr) : Sr := match r with
  | .ok t S => f t S
  | .ex c fs S => .ex c fs env S
  | .bad => .bad
def setAt (n : Tv) (i : Tv) (t : Tv) (S : Sto) : Option Sto := match n, i with
  | .cell n, .int k => match S[n]? with
    | some (.lst ts) => (L2.ixN ts.length k).map fun j => S.set n (.lst (ts.set j t))
    | _ => none
  | _, _ => none
mutual
def ex (cf : Nat → List Tv → M Tv) (m : Nat) : Sx → Env → Sto → Sr
  | .asg tg e, env, S => srOf ((ev cf e).v env S) env fun t S => match setTg tg t env with
    | some e => .nx e S
    | none => .bad
  | .drop e, env, S => srOf ((ev cf e).v env S) env fun _ S => .nx env S
  | .setIx a i e, env, S => srOf ((ev cf e).v env S) env fun t S => srOf ((ev cf a).v env S) env fun x S => srOf ((ev cf i).v env S) env fun j S =>
    match setAt x j t S with
    | some S' => .nx env S'
    | none => .bad
  | .ifS c a b, env, S => match (ev cf c).t env S with
    | .ok k S => if k then exs cf m a env S else exs cf m b env S
    | .ex c fs S => .ex c fs env S
    | .bad => .bad
  | .whileS c a, env, S => whileL (ev cf c).t (exs cf m a) m env S
  | .forS tg it a, env, S => match evI cf it env S with
    | .ok q S => forL q.2 tg (exs cf m a) q.1 env S
    | .ex c fs S => .ex c fs env S
    | .bad => .bad
  | .ret e, env, S => srOf ((ev cf e).v env S) env fun t S => .rt t S
  | .brk, env, S => .bk env S
  | .cont, env, S => .ct env S
  | .pass, env, S => .nx env S
  | .setAtt c i a e, env, S => srOf ((ev cf e).v env S) env fun t S => srOf ((ev cf a).v env S) env fun x S => match setAttM c i x t S with
    | some S' => .nx env S'
    | none => .bad
  | .raiseS, _, _ => .bad
  | .raiseE c, env, S => .ex c [] env S
  | .tryE a i v _ _ sub s1 s2, env, S => match exs cf m a env S with
    | .ex c [] e S' => match sub.lookup c with
      | some b => if i < e.length then .nx ((e.set v (some (.str (if b then s1 else s2)))).set i none) S' else .bad
      | none => .bad
    | .ex _ _ _ _ => .bad
    | r => r
def exs (cf : Nat → List Tv → M Tv) (m : Nat) : List Sx → Env → Sto → Sr
  | [], env, S => .nx env S
  | s :: r, env, S => match ex cf m s env S with
    | .nx env S => exs cf m r env S
    | x => x
end
/-- a def: how many names, its parameters, its body -/
structure Df where
  n : Nat
  k : Nat
  body : List Sx
/-- fuel of a while -/
def Fu : Nat := 1000000000
def runD (cf : Nat → List Tv → M Tv) (d : Df) (as : List Tv) : M Tv := fun S =>
  if as.length = d.k then
    match exs cf Fu d.body (as.map some ++ List.replicate (d.n - d.k) none) S with
    | .rt t S' => if S'.take S.length = S ∧ t.noCell = true then .ok t S else .ok t S'
    | .nx _ S' => .ok .non S'
    | .ex c fs _ S' => .ex c fs S'
    | _ => .bad
  else .bad
end Mp
namespace Mp
open PySem L2
/-- what stands around: the program, the written part, the module's names, the classes (name, fields) -/
structure Wd where
  P : Program
  w : World
  K : PySem.W.Frag
  mg : Str → Option Value
  base : Heap
  cls : Nat → Str × List Str
  xcs : Nat → Str × List Str := fun _ => ("", [])
def KT (K : PySem.W.Frag) (a : Addr) (xs : List V) : Prop := ∃ (o : Obj) (its : Array Value) (n : Nat), K.lookup a = some o ∧ o.cls = .type "tuple" ∧ o.data = .seq its n ∧ its.size ≤ sizeLine ∧ Vals xs its.toList
def FzT (K : PySem.W.Frag) (ν : List Addr) (H : Hp) (a : Addr) (xs : List V) : Prop := (a ∉ ν ∧ Rd H a (.tup xs)) ∨ KT K a xs
/-- the script: walled off, or the written part's own -/
def FzS (K : PySem.W.Frag) (ν : List Addr) (H : Hp) (a : Addr) (xs : List V) : Prop := (a ∉ ν ∧ ∃ o, H a = some (.frz o (.lst xs))) ∨
  ∃ (o : Obj) (its : Array Value) (n : Nat), K.lookup a = some o ∧ o.cls = .type "list" ∧ o.dict = none ∧ o.data = .seq its n ∧ its.size ≤ sizeLine ∧ Vals xs its.toList
def FzL (ν : List Addr) (H : Hp) (a : Addr) (xs : List V) : Prop := a ∉ ν ∧ H a = some (.lst xs)
variable {G : Wd} {ν μ ν' μ' ν1 μ1 ν2 μ2 : List Addr} {H H' H1 H2 : Hp} {S S' S1 S2 : Sto}
theorem FzT.sq {K : PySem.W.Frag} {a : Addr} {xs : List V} (h : FzT K ν H a xs) : SqT K H a xs := by
  rcases h with ⟨_, h⟩ | h
  · exact .inl h
  · exact .inr h
theorem FzL.sq {K : PySem.W.Frag} {a : Addr} {xs : List V} (h : FzL ν H a xs) : SqL K H a xs := .inl (.inl h.2)
mutual
/-- v stands for the tree -/
def Dn (G : Wd) (ν μ : List Addr) (H : Hp) : Tv → V → Prop
  | .non, v => v = .non
  | .bl b, v => v = .bl b
  | .int i, v => v = .int i
  | .str s, v => v = .str s
  | .tup ts, v => ∃ a vs, v = .ref a ∧ FzT G.K ν H a vs ∧ Dns G ν μ H ts vs
  | .lst ts, v => ∃ a vs, v = .ref a ∧ FzL ν H a vs ∧ Dns G ν μ H ts vs
  | .dct, v => ∃ a, v = .ref a ∧ a ∉ ν ∧ H a = some (.dK [])
  | .scr ts, v => ∃ a vs, v = .ref a ∧ FzS G.K ν H a vs ∧ Dns G ν μ H ts vs
  | .ins c fs, v => ∃ a dx C vs, v = .ref a ∧ a ∉ ν ∧ H a = some (.ins C dx vs) ∧ G.mg (G.cls c).1 = some (.ref C) ∧ vs.map (·.1) = (G.cls c).2 ∧ Dns G ν μ H fs (vs.map (·.2))
  | .cell n, v => ∃ a, v = .ref a ∧ μ[n]? = some a
def Dns (G : Wd) (ν μ : List Addr) (H : Hp) : List Tv → List V → Prop
  | [], vs => vs = []
  | t :: r, vs => ∃ v vr, vs = v :: vr ∧ Dn G ν μ H t v ∧ Dns G ν μ H r vr
end
/-- what stood still: all that is tracked but the places ν -/
structure Kp (ν : List Addr) (H : Hp) (ν' : List Addr) (H' : Hp) : Prop where
  sub : ∀ a ∈ ν, a ∈ ν'
  new : ∀ a ∈ ν', a ∈ ν ∨ H a = none
  keep : ∀ a o, a ∉ ν → H a = some o → H' a = some o
theorem Kp.refl : Kp ν H ν H := ⟨fun _ h => h, fun _ h => .inl h, fun _ _ _ h => h⟩
theorem Kp.out (k : Kp ν H ν' H') {a : Addr} {o : HO} (h : a ∉ ν) (e : H a = some o) : a ∉ ν' := fun z => by
  rcases k.new a z with q | q
  · exact h q
  · rw [e] at q; cases q
theorem Kp.trans (k : Kp ν H ν1 H1) (l : Kp ν1 H1 ν2 H2) : Kp ν H ν2 H2 :=
  { sub := fun a h => l.sub a (k.sub a h)
    new := fun a h => by
      rcases l.new a h with q | q
      · exact k.new a q
      · by_cases hn : a ∈ ν
        · exact .inl hn
        · refine .inr ?_
          cases e : H a with
          | none => rfl
          | some o => rw [k.keep a o hn e] at q; cases q
    keep := fun a o h e => l.keep a o (k.out h e) (k.keep a o h e) }
/-- a new object -/
theorem Kp.new1 {p : Addr} {o : HO} (h : H p = none) : Kp ν H ν (upd H p o) :=
  ⟨fun _ h => h, fun _ h => .inl h, fun a u _ e => by rw [upd_ne (ne_of_none e h)]; exact e⟩
/-- a place is written -/
theorem Kp.write {p : Addr} {o : HO} (h : p ∈ ν) : Kp ν H ν (upd H p o) :=
  ⟨fun _ h => h, fun _ h => .inl h, fun a u n e => by rw [upd_ne (fun z => n (by rw [z]; exact h))]; exact e⟩
/-- a new place -/
theorem Kp.place {p : Addr} {o : HO} (h : H p = none) : Kp ν H (p :: ν) (upd H p o) :=
  ⟨fun _ h => List.mem_cons_of_mem _ h, fun a q => by
    rcases List.mem_cons.mp q with z | z
    · rw [z]; exact .inr h
    · exact .inl z, fun a u n e => by rw [upd_ne (ne_of_none e h)]; exact e⟩
theorem Rd.kp {a : Addr} {u : HO} (k : Kp ν H ν' H') (n : a ∉ ν) (h : Rd H a u) : a ∉ ν' ∧ Rd H' a u := by
  rcases h with h | ⟨o, h⟩
  · exact ⟨k.out n h, .inl (k.keep a _ n h)⟩
  · exact ⟨k.out n h, .inr ⟨o, k.keep a _ n h⟩⟩
theorem FzT.kp {K : PySem.W.Frag} {a : Addr} {xs : List V} (k : Kp ν H ν' H') (h : FzT K ν H a xs) : FzT K ν' H' a xs := by
  rcases h with ⟨n, h⟩ | h
  · exact .inl (Rd.kp k n h)
  · exact .inr h
theorem FzS.kp {K : PySem.W.Frag} {a : Addr} {xs : List V} (k : Kp ν H ν' H') (h : FzS K ν H a xs) : FzS K ν' H' a xs := by
  rcases h with ⟨n, o, h⟩ | h
  · exact .inl ⟨k.out n h, o, k.keep a _ n h⟩
  · exact .inr h
theorem FzS.sq {K : PySem.W.Frag} {a : Addr} {xs : List V} (h : FzS K ν H a xs) : SqL K H a xs := by
  rcases h with ⟨n, o, h⟩ | h
  · exact .inl (.inr ⟨o, h⟩)
  · exact .inr h
theorem FzL.kp {a : Addr} {xs : List V} (k : Kp ν H ν' H') (h : FzL ν H a xs) : FzL ν' H' a xs := ⟨k.out h.1 h.2, k.keep _ _ h.1 h.2⟩
mutual
theorem Dn.kp (k : Kp ν H ν' H') (p : μ <+: μ') : ∀ (t : Tv) (v : V), Dn G ν μ H t v → Dn G ν' μ' H' t v
  | .non, _, h => h
  | .bl _, _, h => h
  | .int _, _, h => h
  | .str _, _, h => h
  | .tup ts, v, h => by
    simp only [Dn] at h ⊢
    obtain ⟨a, vs, e, f, d⟩ := h
    exact ⟨a, vs, e, f.kp k, Dns.kp k p ts vs d⟩
  | .lst ts, v, h => by
    simp only [Dn] at h ⊢
    obtain ⟨a, vs, e, f, d⟩ := h
    exact ⟨a, vs, e, f.kp k, Dns.kp k p ts vs d⟩
  | .dct, v, h => by
    simp only [Dn] at h ⊢
    obtain ⟨a, e, n, q⟩ := h
    exact ⟨a, e, k.out n q, k.keep _ _ n q⟩
  | .scr ts, v, h => by
    simp only [Dn] at h ⊢
    obtain ⟨a, vs, e, f, d⟩ := h
    exact ⟨a, vs, e, f.kp k, Dns.kp k p ts vs d⟩
  | .ins c fs, v, h => by
    simp only [Dn] at h ⊢
    obtain ⟨a, dx, C, vs, e, n, q, g, m, d⟩ := h
    exact ⟨a, dx, C, vs, e, k.out n q, k.keep _ _ n q, g, m, Dns.kp k p fs _ d⟩
  | .cell n, v, h => by
    simp only [Dn] at h ⊢
    obtain ⟨a, e, q⟩ := h
    obtain ⟨r, rfl⟩ := p
    exact ⟨a, e, by rw [List.getElem?_append_left (List.getElem?_eq_some_iff.mp q).1]; exact q⟩
theorem Dns.kp (k : Kp ν H ν' H') (p : μ <+: μ') : ∀ (ts : List Tv) (vs : List V), Dns G ν μ H ts vs → Dns G ν' μ' H' ts vs
  | [], _, h => h
  | t :: r, vs, h => by
    simp only [Dns] at h ⊢
    obtain ⟨v, vr, e, d1, d2⟩ := h
    exact ⟨v, vr, e, Dn.kp k p t v d1, Dns.kp k p r vr d2⟩
end
mutual
/-- fewer places -/
theorem Dn.less (s : ∀ a ∈ ν', a ∈ ν) : ∀ (t : Tv) (v : V), Dn G ν μ H t v → Dn G ν' μ H t v
  | .non, _, h => h
  | .bl _, _, h => h
  | .int _, _, h => h
  | .str _, _, h => h
  | .tup ts, v, h => by
    simp only [Dn] at h ⊢
    obtain ⟨a, vs, e, f, d⟩ := h
    refine ⟨a, vs, e, ?_, Dns.less s ts vs d⟩
    rcases f with ⟨n, f⟩ | f
    · exact .inl ⟨fun z => n (s _ z), f⟩
    · exact .inr f
  | .lst ts, v, h => by
    simp only [Dn] at h ⊢
    obtain ⟨a, vs, e, f, d⟩ := h
    exact ⟨a, vs, e, ⟨fun z => f.1 (s _ z), f.2⟩, Dns.less s ts vs d⟩
  | .dct, v, h => by
    simp only [Dn] at h ⊢
    obtain ⟨a, e, n, q⟩ := h
    exact ⟨a, e, fun z => n (s _ z), q⟩
  | .scr ts, v, h => by
    simp only [Dn] at h ⊢
    obtain ⟨a, vs, e, f, d⟩ := h
    refine ⟨a, vs, e, ?_, Dns.less s ts vs d⟩
    rcases f with ⟨n, o, f⟩ | f
    · exact .inl ⟨fun z => n (s _ z), o, f⟩
    · exact .inr f
  | .ins c fs, v, h => by
    simp only [Dn] at h ⊢
    obtain ⟨a, dx, C, vs, e, n, q, g, m, d⟩ := h
    exact ⟨a, dx, C, vs, e, fun z => n (s _ z), q, g, m, Dns.less s fs _ d⟩
  | .cell n, v, h => h
theorem Dns.less (s : ∀ a ∈ ν', a ∈ ν) : ∀ (ts : List Tv) (vs : List V), Dns G ν μ H ts vs → Dns G ν' μ H ts vs
  | [], _, h => h
  | t :: r, vs, h => by
    simp only [Dns] at h ⊢
    obtain ⟨v, vr, e, d1, d2⟩ := h
    exact ⟨v, vr, e, Dn.less s t v d1, Dns.less s r vr d2⟩
end
mutual
/-- no cell in it: the places' list may shrink -/
theorem Dn.pure : ∀ (t : Tv) (v : V), t.noCell = true → Dn G ν μ H t v → Dn G ν μ' H t v
  | .non, _, _, h => h
  | .bl _, _, _, h => h
  | .int _, _, _, h => h
  | .str _, _, _, h => h
  | .tup ts, v, c, h => by
    simp only [Dn] at h ⊢
    obtain ⟨a, vs, e, f, d⟩ := h
    exact ⟨a, vs, e, f, Dns.pure ts vs (by simpa [Tv.noCell] using c) d⟩
  | .lst ts, v, c, h => by
    simp only [Dn] at h ⊢
    obtain ⟨a, vs, e, f, d⟩ := h
    exact ⟨a, vs, e, f, Dns.pure ts vs (by simpa [Tv.noCell] using c) d⟩
  | .dct, _, _, h => h
  | .scr ts, v, c, h => by
    simp only [Dn] at h ⊢
    obtain ⟨a, vs, e, f, d⟩ := h
    exact ⟨a, vs, e, f, Dns.pure ts vs (by simpa [Tv.noCell] using c) d⟩
  | .ins c' fs, v, c, h => by
    simp only [Dn] at h ⊢
    obtain ⟨a, dx, C, vs, e, n, q, g, m, d⟩ := h
    exact ⟨a, dx, C, vs, e, n, q, g, m, Dns.pure fs _ (by simpa [Tv.noCell] using c) d⟩
  | .cell n, v, c, h => by simp [Tv.noCell] at c
theorem Dns.pure : ∀ (ts : List Tv) (vs : List V), Tv.noCells ts = true → Dns G ν μ H ts vs → Dns G ν μ' H ts vs
  | [], _, _, h => h
  | t :: r, vs, c, h => by
    simp only [Dns] at h ⊢
    have c' : t.noCell = true ∧ Tv.noCells r = true := by simpa [Tv.noCells] using c
    obtain ⟨v, vr, e, d1, d2⟩ := h
    exact ⟨v, vr, e, Dn.pure t v c'.1 d1, Dns.pure r vr c'.2 d2⟩
end
theorem Dns.length : ∀ {ts : List Tv} {vs : List V}, Dns G ν μ H ts vs → ts.length = vs.length
  | [], _, h => by simp only [Dns] at h; rw [h] <;> rfl
  | t :: r, vs, h => by
    simp only [Dns] at h
    obtain ⟨v, vr, e, _, d⟩ := h
    rw [e, List.length_cons, List.length_cons, Dns.length d]
theorem Dns.get : ∀ {ts : List Tv} {vs : List V} {i : Nat} {t : Tv}, Dns G ν μ H ts vs → ts[i]? = some t → ∃ v, vs[i]? = some v ∧ Dn G ν μ H t v
  | [], _, _, _, _, e => by simp at e
  | t :: r, vs, 0, u, h, e => by
    simp only [Dns] at h
    obtain ⟨v, vr, q, d, _⟩ := h
    simp at e
    subst e q
    exact ⟨v, rfl, d⟩
  | t :: r, vs, i + 1, u, h, e => by
    simp only [Dns] at h
    obtain ⟨v, vr, q, _, d⟩ := h
    subst q
    obtain ⟨w, e1, e2⟩ := Dns.get (i := i) d (by simpa using e)
    exact ⟨w, by simpa using e1, e2⟩
theorem Dns.append : ∀ {ts us : List Tv} {vs ws : List V}, Dns G ν μ H ts vs → Dns G ν μ H us ws → Dns G ν μ H (ts ++ us) (vs ++ ws)
  | [], _, _, _, h, d => by simp only [Dns] at h; rw [h]; exact d
  | t :: r, us, vs, ws, h, d => by
    simp only [Dns] at h
    obtain ⟨v, vr, q, d1, d2⟩ := h
    subst q
    show Dns G ν μ H (t :: (r ++ us)) (v :: (vr ++ ws))
    simp only [Dns]
    exact ⟨v, vr ++ ws, rfl, d1, Dns.append d2 d⟩
theorem Dns.take : ∀ {ts : List Tv} {vs : List V} (n : Nat), Dns G ν μ H ts vs → Dns G ν μ H (ts.take n) (vs.take n)
  | [], _, n, h => by simp only [Dns] at h; rw [h]; simp [Dns]
  | t :: r, vs, 0, h => by simp [Dns]
  | t :: r, vs, n + 1, h => by
    simp only [Dns] at h
    obtain ⟨v, vr, q, d1, d2⟩ := h
    subst q
    simp only [List.take_succ_cons, Dns]
    exact ⟨v, vr.take n, rfl, d1, Dns.take n d2⟩
theorem Dns.drop : ∀ {ts : List Tv} {vs : List V} (n : Nat), Dns G ν μ H ts vs → Dns G ν μ H (ts.drop n) (vs.drop n)
  | ts, vs, 0, h => h
  | [], _, n + 1, h => by simp only [Dns] at h; rw [h]; simp [Dns]
  | t :: r, vs, n + 1, h => by
    simp only [Dns] at h
    obtain ⟨v, vr, q, d1, d2⟩ := h
    subst q
    exact Dns.drop n d2
theorem Dns.set : ∀ {ts : List Tv} {vs : List V} (n : Nat) {t : Tv} {v : V}, Dns G ν μ H ts vs → Dn G ν μ H t v → Dns G ν μ H (ts.set n t) (vs.set n v)
  | [], _, n, _, _, h, _ => by simp only [Dns] at h; rw [h]; simp [Dns]
  | t :: r, vs, 0, u, w, h, d => by
    simp only [Dns] at h
    obtain ⟨v, vr, q, d1, d2⟩ := h
    subst q
    simp only [List.set_cons_zero, Dns]
    exact ⟨w, vr, rfl, d, d2⟩
  | t :: r, vs, n + 1, u, w, h, d => by
    simp only [Dns] at h
    obtain ⟨v, vr, q, d1, d2⟩ := h
    subst q
    simp only [List.set_cons_succ, Dns]
    exact ⟨v, vr.set n w, rfl, d1, Dns.set n d2 d⟩
theorem Dns.eraseIdx : ∀ {ts : List Tv} {vs : List V} (n : Nat), Dns G ν μ H ts vs → Dns G ν μ H (ts.eraseIdx n) (vs.eraseIdx n)
  | [], _, n, h => by simp only [Dns] at h; rw [h]; simp [Dns]
  | t :: r, vs, 0, h => by
    simp only [Dns] at h
    obtain ⟨v, vr, q, d1, d2⟩ := h
    subst q
    exact d2
  | t :: r, vs, n + 1, h => by
    simp only [Dns] at h
    obtain ⟨v, vr, q, d1, d2⟩ := h
    subst q
    simp only [List.eraseIdx_cons_succ, Dns]
    exact ⟨v, vr.eraseIdx n, rfl, d1, Dns.eraseIdx n d2⟩
theorem Dns.reverse : ∀ {ts : List Tv} {vs : List V}, Dns G ν μ H ts vs → Dns G ν μ H ts.reverse vs.reverse
  | [], _, h => by simp only [Dns] at h; rw [h]; simp [Dns]
  | t :: r, vs, h => by
    simp only [Dns] at h
    obtain ⟨v, vr, q, d1, d2⟩ := h
    subst q
    rw [List.reverse_cons, List.reverse_cons]
    refine Dns.append (Dns.reverse d2) ?_
    simp only [Dns]
    exact ⟨v, [], rfl, d1, rfl⟩
theorem Dns.one {t : Tv} {v : V} (d : Dn G ν μ H t v) : Dns G ν μ H [t] [v] := by
  simp only [Dns]
  exact ⟨v, [], rfl, d, rfl⟩
theorem Dns.two {t u : Tv} {v w : V} (d : Dn G ν μ H t v) (e : Dn G ν μ H u w) : Dns G ν μ H [t, u] [v, w] := by
  simp only [Dns]
  exact ⟨v, [w], rfl, d, w, [], rfl, e, rfl⟩
theorem Dns.un1 {t : Tv} {vs : List V} (d : Dns G ν μ H [t] vs) : ∃ v, vs = [v] ∧ Dn G ν μ H t v := by
  simp only [Dns] at d
  obtain ⟨v, vr, e, d, q⟩ := d
  subst q
  exact ⟨v, e, d⟩
theorem Dns.un2 {t u : Tv} {vs : List V} (d : Dns G ν μ H [t, u] vs) : ∃ v w, vs = [v, w] ∧ Dn G ν μ H t v ∧ Dn G ν μ H u w := by
  simp only [Dns] at d
  obtain ⟨v, vr, e, d, w, vr', e', d', q⟩ := d
  subst q e'
  exact ⟨v, w, e, d, d'⟩
/-- what stands at a place -/
def ObR (G : Wd) (ν μ : List Addr) (H : Hp) (a : Addr) : Ob → Prop
  | .lst ts => ∃ vs, H a = some (.lst vs) ∧ Dns G ν μ H ts vs
  | .ins c fs => ∃ dx C vs, H a = some (.ins C dx vs) ∧ G.mg (G.cls c).1 = some (.ref C) ∧ vs.map (·.1) = (G.cls c).2.take fs.length ∧ Dns G ν μ H fs (vs.map (·.2))
  | .dct kvs => ∃ ks, H a = some (.dK ks) ∧ Dns G ν μ H (kvs.map (·.1)) (ks.map fun p => kV p.1) ∧ Dns G ν μ H (kvs.map (·.2)) (ks.map (·.2))
theorem ObR.kp (k : Kp ν H ν' H') (p : μ <+: μ') {a : Addr} {o : Ob} (h : ObR G ν μ H a o) (e : H' a = H a) : ObR G ν' μ' H' a o := by
  cases o with
  | lst ts =>
    obtain ⟨vs, q, d⟩ := h
    exact ⟨vs, by rw [e]; exact q, Dns.kp k p _ _ d⟩
  | ins c fs =>
    obtain ⟨dx, C, vs, q, g, m, d⟩ := h
    exact ⟨dx, C, vs, by rw [e]; exact q, g, m, Dns.kp k p _ _ d⟩
  | dct kvs =>
    obtain ⟨ks, q, d1, d2⟩ := h
    exact ⟨ks, by rw [e]; exact q, Dns.kp k p _ _ d1, Dns.kp k p _ _ d2⟩
theorem ObR.less (s : ∀ a ∈ ν', a ∈ ν) {a : Addr} {o : Ob} (h : ObR G ν μ H a o) : ObR G ν' μ H a o := by
  cases o with
  | lst ts =>
    obtain ⟨vs, q, d⟩ := h
    exact ⟨vs, q, Dns.less s _ _ d⟩
  | ins c fs =>
    obtain ⟨dx, C, vs, q, g, m, d⟩ := h
    exact ⟨dx, C, vs, q, g, m, Dns.less s _ _ d⟩
  | dct kvs =>
    obtain ⟨ks, q, d1, d2⟩ := h
    exact ⟨ks, q, Dns.less s _ _ d1, Dns.less s _ _ d2⟩
theorem ObR.some {a : Addr} {o : Ob} (h : ObR G ν μ H a o) : ∃ u, H a = some u := by
  cases o with
  | lst ts => obtain ⟨vs, q, d⟩ := h; exact ⟨_, q⟩
  | ins c fs => obtain ⟨dx, C, vs, q, _⟩ := h; exact ⟨_, q⟩
  | dct kvs => obtain ⟨ks, q, _⟩ := h; exact ⟨_, q⟩
/-- the store stands in the heap: place n at μ n; ν: these and whatever else may be written meanwhile -/
structure StR (G : Wd) (ν μ : List Addr) (S : Sto) (H : Hp) : Prop where
  len : μ.length = S.length
  nd : μ.Nodup
  sub : ∀ a ∈ μ, a ∈ ν
  trk : ∀ a ∈ ν, ∃ o, H a = some o
  ob : ∀ (n : Nat) (o : Ob), S[n]? = some o → ∃ a, μ[n]? = some a ∧ ObR G ν μ H a o
theorem StR.at {n : Nat} {a : Addr} {o : Ob} (s : StR G ν μ S H) (e : S[n]? = some o) (h : μ[n]? = some a) : ObR G ν μ H a o := by
  obtain ⟨b, e1, r⟩ := s.ob n o e
  rw [h] at e1
  cases e1
  exact r
theorem StR.fresh {p : Addr} (s : StR G ν μ S H) (h : H p = none) : p ∉ ν := fun z => by
  obtain ⟨o, e⟩ := s.trk p z
  rw [h] at e; cases e
/-- a new thing that is no place -/
theorem StR.new1 {p : Addr} {o : HO} (s : StR G ν μ S H) (h : H p = none) : StR G ν μ S (upd H p o) := by
  have k : Kp ν H ν (upd H p o) := .new1 h
  refine ⟨s.len, s.nd, s.sub, fun a ha => ?_, fun n u e => ?_⟩
  · obtain ⟨o', e⟩ := s.trk a ha
    exact ⟨o', by rw [upd_ne (ne_of_none e h)]; exact e⟩
  · obtain ⟨a, e1, r⟩ := s.ob n u e
    obtain ⟨z, ez⟩ := r.some
    exact ⟨a, e1, r.kp k (List.prefix_refl _) (upd_ne (ne_of_none ez h))⟩
/-- the place n is written -/
theorem StR.write {n : Nat} {p : Addr} {o : HO} {u : Ob} (s : StR G ν μ S H) (hp : μ[n]? = some p) (new : ObR G ν μ (upd H p o) p u) : StR G ν μ (S.set n u) (upd H p o) := by
  have hpn : p ∈ ν := s.sub p (List.mem_of_getElem? hp)
  have k : Kp ν H ν (upd H p o) := .write hpn
  refine ⟨by rw [List.length_set]; exact s.len, s.nd, s.sub, fun a ha => ?_, fun m v e => ?_⟩
  · by_cases z : a = p
    · rw [z]; exact ⟨o, upd_same⟩
    · obtain ⟨o', e⟩ := s.trk a ha
      exact ⟨o', by rw [upd_ne z]; exact e⟩
  · by_cases z : n = m
    · subst z
      have hl : n < S.length := by rw [← s.len]; exact (List.getElem?_eq_some_iff.mp hp).1
      rw [List.getElem?_set_self hl] at e
      cases e
      exact ⟨p, hp, new⟩
    · rw [List.getElem?_set_ne z] at e
      obtain ⟨a, e1, r⟩ := s.ob m v e
      have ne : a ≠ p := fun q => by
        subst q
        obtain ⟨h1, z1⟩ := List.getElem?_eq_some_iff.mp hp
        obtain ⟨h2, z2⟩ := List.getElem?_eq_some_iff.mp e1
        exact z ((List.getElem_inj s.nd).mp (z1.trans z2.symm))
      exact ⟨a, e1, r.kp k (List.prefix_refl _) (upd_ne ne)⟩
/-- a new place in the store -/
theorem StR.place {p : Addr} {o : HO} {u : Ob} (s : StR G ν μ S H) (h : H p = none) (new : ObR G (p :: ν) (μ ++ [p]) (upd H p o) p u) : StR G (p :: ν) (μ ++ [p]) (S ++ [u]) (upd H p o) := by
  have k : Kp ν H (p :: ν) (upd H p o) := .place h
  have hpn : p ∉ ν := s.fresh h
  refine ⟨by rw [List.length_append, List.length_append, s.len]; rfl, ?_, fun a ha => ?_, fun a ha => ?_, fun m v e => ?_⟩
  · rw [List.nodup_append]
    exact ⟨s.nd, List.nodup_cons.mpr ⟨by simp, List.nodup_nil⟩, fun a ha b hb => by
      rw [List.mem_singleton.mp hb]
      exact fun z => hpn (by rw [← z]; exact s.sub a ha)⟩
  · rcases List.mem_append.mp ha with q | q
    · exact List.mem_cons_of_mem _ (s.sub a q)
    · rw [List.mem_singleton.mp q]; exact List.mem_cons_self
  · rcases List.mem_cons.mp ha with q | q
    · rw [q]; exact ⟨o, upd_same⟩
    · obtain ⟨o', e⟩ := s.trk a q
      exact ⟨o', by rw [upd_ne (ne_of_none e h)]; exact e⟩
  · by_cases hm : m < S.length
    · rw [List.getElem?_append_left hm] at e
      obtain ⟨a, e1, r⟩ := s.ob m v e
      obtain ⟨z, ez⟩ := r.some
      exact ⟨a, by rw [List.getElem?_append_left (by rw [s.len]; exact hm)]; exact e1, r.kp k (List.prefix_append _ _) (upd_ne (ne_of_none ez h))⟩
    · have em : m = S.length := by
        have := (List.getElem?_eq_some_iff.mp e).1
        rw [List.length_append] at this
        have : m < S.length + 1 := this
        omega
      subst em
      rw [List.getElem?_append_right (Nat.le_refl _), Nat.sub_self] at e
      cases e
      exact ⟨p, by rw [List.getElem?_append_right (by rw [s.len]; exact Nat.le_refl _), s.len, Nat.sub_self]; rfl, new⟩
/-- behind a piece of work -/
structure Af (G : Wd) (ν μ : List Addr) (H : Hp) (ν' μ' : List Addr) (S' : Sto) (H' : Hp) : Prop where
  kp : Kp ν H ν' H'
  pre : μ <+: μ'
  st : StR G ν' μ' S' H'
  nm : ∀ a ∈ μ', a ∈ μ ∨ H a = none
  lk : ∀ a o, a ∉ μ → H a = some o → H' a = some o
/-- the same, the places beside the store left aside -/
structure Al (G : Wd) (ν μ : List Addr) (H : Hp) (ν' μ' : List Addr) (S' : Sto) (H' : Hp) : Prop where
  kp : Kp ν H ν' H'
  pre : μ <+: μ'
  st : StR G ν' μ' S' H'
theorem Af.al {S' : Sto} (a : Af G ν μ H ν' μ' S' H') : Al G ν μ H ν' μ' S' H' := ⟨a.kp, a.pre, a.st⟩
theorem Al.refl (s : StR G ν μ S H) : Al G ν μ H ν μ S H := ⟨.refl, List.prefix_refl _, s⟩
theorem Al.more {S1 S2 : Sto} (a : Al G ν μ H ν1 μ1 S1 H1) (b : Af G ν1 μ1 H1 ν2 μ2 S2 H2) : Al G ν μ H ν2 μ2 S2 H2 := ⟨a.kp.trans b.kp, a.pre.trans b.pre, b.st⟩
theorem Af.refl (s : StR G ν μ S H) : Af G ν μ H ν μ S H := ⟨.refl, List.prefix_refl _, s, fun _ h => .inl h, fun _ _ _ h => h⟩
theorem Af.trans {S1 S2 : Sto} (a : Af G ν μ H ν1 μ1 S1 H1) (b : Af G ν1 μ1 H1 ν2 μ2 S2 H2) : Af G ν μ H ν2 μ2 S2 H2 :=
  ⟨a.kp.trans b.kp, a.pre.trans b.pre, b.st, fun y hy => by
    rcases b.nm y hy with q | q
    · exact a.nm y q
    · by_cases hm : y ∈ μ
      · exact .inl hm
      · refine .inr ?_
        cases e : H y with
        | none => rfl
        | some o => exact absurd ((a.lk y o hm e).symm.trans q) (fun z => nomatch z),
   fun y o hm e => b.lk y o (fun q => by
      rcases a.nm y q with z | z
      · exact hm z
      · rw [e] at z; cases z) (a.lk y o hm e)⟩
/-- a new thing, no place -/
theorem Af.new1 {p : Addr} {o : HO} (s : StR G ν μ S H) (h : H p = none) : Af G ν μ H ν μ S (upd H p o) :=
  ⟨.new1 h, List.prefix_refl _, s.new1 h, fun _ h => .inl h, fun a u _ e => by rw [upd_ne (ne_of_none e h)]; exact e⟩
theorem Dn.af {S' : Sto} (a : Af G ν μ H ν' μ' S' H') {t : Tv} {v : V} (d : Dn G ν μ H t v) : Dn G ν' μ' H' t v := Dn.kp a.kp a.pre t v d
theorem Dns.af {S' : Sto} (a : Af G ν μ H ν' μ' S' H') {t : List Tv} {v : List V} (d : Dns G ν μ H t v) : Dns G ν' μ' H' t v := Dns.kp a.kp a.pre t v d
theorem Dn.al {S' : Sto} (a : Al G ν μ H ν' μ' S' H') {t : Tv} {v : V} (d : Dn G ν μ H t v) : Dn G ν' μ' H' t v := Dn.kp a.kp a.pre t v d
theorem Dns.al {S' : Sto} (a : Al G ν μ H ν' μ' S' H') {t : List Tv} {v : List V} (d : Dns G ν μ H t v) : Dns G ν' μ' H' t v := Dns.kp a.kp a.pre t v d
/-- the names' values -/
structure EnR (G : Wd) (ν μ : List Addr) (H : Hp) (env : Env) (σ : St) : Prop where
  len : env.length = σ.length
  at' : ∀ (i : Nat) (t : Tv), env[i]? = some (some t) → ∃ v, σ[i]? = some (some v) ∧ Dn G ν μ H t v
theorem EnR.af {S' : Sto} {env : Env} {σ : St} (a : Af G ν μ H ν' μ' S' H') (r : EnR G ν μ H env σ) : EnR G ν' μ' H' env σ :=
  ⟨r.len, fun i t e => let ⟨v, h1, h2⟩ := r.at' i t e; ⟨v, h1, h2.af a⟩⟩
theorem EnR.set {env : Env} {σ : St} {i : Nat} {t : Tv} {v : V} (r : EnR G ν μ H env σ) (d : Dn G ν μ H t v) : EnR G ν μ H (env.set i (some t)) (σ.set i (some v)) := by
  refine ⟨by rw [List.length_set, List.length_set]; exact r.len, fun j u e => ?_⟩
  by_cases z : i = j
  · subst z
    by_cases hl : i < env.length
    · rw [List.getElem?_set_self hl] at e
      cases e
      exact ⟨v, List.getElem?_set_self (by rw [← r.len]; exact hl), d⟩
    · rw [List.getElem?_eq_none (by rw [List.length_set]; omega)] at e
      cases e
  · rw [List.getElem?_set_ne z] at e
    rw [List.getElem?_set_ne z]
    exact r.at' j u e
theorem EnR.wipe {env : Env} {σ : St} (r : EnR G ν μ H env σ) : ∀ vs : List Nat, EnR G ν μ H (wipeE env vs) (L2.wipe σ vs)
  | [] => r
  | v :: vs => by
    have q := EnR.wipe r vs
    refine ⟨?_, fun j u e => ?_⟩
    · show ((wipeE env vs).set v none).length = ((L2.wipe σ vs).set v none).length
      rw [List.length_set, List.length_set]; exact q.len
    · change ((wipeE env vs).set v none)[j]? = some (some u) at e
      show ∃ w, ((L2.wipe σ vs).set v none)[j]? = some (some w) ∧ _
      by_cases z : v = j
      · subst z
        by_cases hl : v < (wipeE env vs).length
        · rw [List.getElem?_set_self hl] at e; cases e
        · rw [List.getElem?_eq_none (by rw [List.length_set]; omega)] at e
          cases e
      · rw [List.getElem?_set_ne z] at e
        rw [List.getElem?_set_ne z]
        exact q.at' j u e
structure Rl (G : Wd) (env : Env) (S : Sto) (ν μ : List Addr) (σ : St) (H : Hp) : Prop where
  st : StR G ν μ S H
  en : EnR G ν μ H env σ
theorem Rl.af {S S' : Sto} {env : Env} {σ : St} (a : Af G ν μ H ν' μ' S' H') (r : Rl G env S ν μ σ H) : Rl G env S' ν' μ' σ H' := ⟨a.st, r.en.af a⟩
/-- an error of the class c with its fields -/
def XcR (G : Wd) (ν μ : List Addr) (H : Hp) (c : Nat) (fs : List Tv) (cls : Value) (d : Option Addr) : Prop :=
  ∃ C, cls = .ref C ∧ G.mg (G.xcs c).1 = some (.ref C) ∧ match d with
    | none => fs = []
    | some dx => fs ≠ [] ∧ ∃ vs, H dx = some (.xd vs) ∧ vs.map (·.1) = (G.xcs c).2 ∧ Dns G ν μ H fs (vs.map (·.2))
/-- what is wanted behind: of a value, of an error -/
def Fin {α β : Type} (G : Wd) (W : Value → Option Addr → Hp → Prop) (D : List Addr → List Addr → Hp → α → β → Prop) (ν μ : List Addr) (H : Hp) (r : Rs α) (Q : β → Hp → Prop) : Prop :=
  match r with
  | .ok t S' => ∀ v H' ν' μ', Af G ν μ H ν' μ' S' H' → D ν' μ' H' t v → Q v H'
  | .ex c fs S' => ∀ cls d H' ν' μ', Af G ν μ H ν' μ' S' H' → XcR G ν' μ' H' c fs cls d → W cls d H'
  | .bad => False
abbrev DV (G : Wd) : List Addr → List Addr → Hp → Tv → V → Prop := fun ν μ H t v => Dn G ν μ H t v
abbrev DVs (G : Wd) : List Addr → List Addr → Hp → List Tv → List V → Prop := fun ν μ H t v => Dns G ν μ H t v
abbrev DB : List Addr → List Addr → Hp → Bool → Bool → Prop := fun _ _ _ t v => t = v
section
variable {α β γ δ : Type} {W : Value → Option Addr → Hp → Prop} {D : List Addr → List Addr → Hp → α → β → Prop} {D' : List Addr → List Addr → Hp → γ → δ → Prop}
theorem Fin.mono {r : Rs α} {Q Q' : β → Hp → Prop} (h : Fin G W D ν μ H r Q) (q : ∀ v H', Q v H' → Q' v H') : Fin G W D ν μ H r Q' := by
  cases r with
  | ok t S' => exact fun v H' ν' μ' a d => q v H' (h v H' ν' μ' a d)
  | ex c fs S' => exact h
  | bad => exact h
theorem Fin.after {r : Rs α} {Q : β → Hp → Prop} {S' : Sto} (a : Af G ν μ H ν' μ' S' H') (h : Fin G W D ν μ H r Q) : Fin G W D ν' μ' H' r Q := by
  cases r with
  | ok t S' => exact fun v H2 ν2 μ2 b d => h v H2 ν2 μ2 (a.trans b) d
  | ex c fs S' => exact fun cls d H2 ν2 μ2 b x => h cls d H2 ν2 μ2 (a.trans b) x
  | bad => exact h
theorem Fin.ok {t : α} {Q : β → Hp → Prop} {v : β} (h : Fin G W D ν μ H (.ok t S) Q) (s : StR G ν μ S H) (d : D ν μ H t v) : Q v H := h v H ν μ (.refl s) d
/-- one piece, then the rest -/
theorem Fin.bnd {r : Rs α} {k : α → M γ} {Q : δ → Hp → Prop} (h : Fin G W D' ν μ H (r.bnd k) Q) :
    Fin G W D ν μ H r fun v H1 => ∃ t S1 ν1 μ1, Af G ν μ H ν1 μ1 S1 H1 ∧ D ν1 μ1 H1 t v ∧ Fin G W D' ν1 μ1 H1 (k t S1) Q := by
  cases r with
  | ok t S1 => exact fun v H1 ν1 μ1 a d => ⟨t, S1, ν1, μ1, a, d, Fin.after a h⟩
  | ex c fs S1 => exact h
  | bad => exact h.elim
end
/-! ### readings -/
def tE (G : Wd) (W : WX) (f : Env → M Tv) : TE := fun σ H Q => ∃ env S ν μ, Rl G env S ν μ σ H ∧ Fin G (fun c d H' => W c d σ H') (DV G) ν μ H (f env S) Q
def tT (G : Wd) (W : WX) (f : Env → M Bool) : TT := fun σ H Q => ∃ env S ν μ, Rl G env S ν μ σ H ∧ Fin G (fun c d H' => W c d σ H') DB ν μ H (f env S) Q
def tA (G : Wd) (W : WX) (f : Env → M (List Tv)) : TA := fun σ H Q => ∃ env S ν μ, Rl G env S ν μ σ H ∧ Fin G (fun c d H' => W c d σ H') (DVs G) ν μ H (f env S) Q
variable {X : Cx} {W : WX} {e a b : Expr} {f g : Env → M Tv} {pos : Pos}
theorem PE.imp {t t' : TE} (h : PE X e t) (i : ∀ σ H Q, t' σ H Q → t σ H Q) : PE X e t' := ⟨fun pins s σ H Q I q => h.run pins s σ H Q I (i σ H Q q)⟩
theorem PT.imp {t t' : TT} (h : PT X e t) (i : ∀ σ H Q, t' σ H Q → t σ H Q) : PT X e t' := ⟨fun pins s σ H Q I q => h.run pins s σ H Q I (i σ H Q q)⟩
theorem PA.imp {es : List Expr} {t t' : TA} (h : PA X es t) (i : ∀ σ H Q, t' σ H Q → t σ H Q) : PA X es t' := ⟨fun pos pins s σ H Q I q => h.run pos pins s σ H Q I (i σ H Q q)⟩
theorem PS.imp {st : Stmt} {t t' : TS} (h : PS X st t) (i : ∀ D σ H, t' D σ H → t D σ H) : PS X st t' := ⟨fun pins s σ H D I q => h.run pins s σ H D I (i D σ H q)⟩
theorem PSs.imp {st : List Stmt} {t t' : TS} (h : PSs X st t) (i : ∀ D σ H, t' D σ H → t D σ H) : PSs X st t' := ⟨fun pins s σ H D I q => h.run pins s σ H D I (i D σ H q)⟩
theorem PI.imp {tg : Expr} {t t' : TI} (h : PI X tg e t) (i : ∀ σ H Q, t' σ H Q → t σ H Q) : PI X tg e t' := ⟨fun pins s σ H Q I q => h.run pins s σ H Q I (i σ H Q q)⟩
theorem tE.mono {σ : St} {Q Q' : VK} (h : tE G W f σ H Q) (q : ∀ v H', Q v H' → Q' v H') : tE G W f σ H Q' := by
  obtain ⟨env, S, ν, μ, r, h⟩ := h
  exact ⟨env, S, ν, μ, r, h.mono q⟩
/-- one expression, then a step of its value -/
theorem tE.one {σ : St} {Q : VK} {k : Tv → M Tv} {P : VK} (h : tE G W (fun env => bnd (f env) k) σ H Q)
    (q : ∀ (S : Sto) (ν μ : List Addr) (v : V) (H' : Hp) (t : Tv), StR G ν μ S H' → Dn G ν μ H' t v → Fin G (fun c d H' => W c d σ H') (DV G) ν μ H' (k t S) Q → P v H') : tE G W f σ H P := by
  obtain ⟨env, S, ν, μ, r, h⟩ := h
  exact ⟨env, S, ν, μ, r, (Fin.bnd (D := DV G) h).mono fun v H' ⟨t, S1, ν1, μ1, a, d, z⟩ => q S1 ν1 μ1 v H' t a.st d z⟩
theorem tE.two {σ : St} {Q : VK} {k : Tv → Tv → M Tv} {P : V → VK} (h : tE G W (fun env => bnd (f env) fun x => bnd (g env) fun y => k x y) σ H Q)
    (q : ∀ (S : Sto) (ν μ : List Addr) (v w : V) (H' : Hp) (t u : Tv), StR G ν μ S H' → Dn G ν μ H' t v → Dn G ν μ H' u w → Fin G (fun c d H' => W c d σ H') (DV G) ν μ H' (k t u S) Q → P v w H') :
    tE G W f σ H fun v H1 => tE G W g σ H1 fun w H2 => P v w H2 := by
  obtain ⟨env, S, ν, μ, r, h⟩ := h
  refine ⟨env, S, ν, μ, r, (Fin.bnd (D := DV G) h).mono fun v H1 ⟨t, S1, ν1, μ1, a, d, z⟩ => ?_⟩
  exact ⟨env, S1, ν1, μ1, r.af a, (Fin.bnd (D := DV G) z).mono fun w H2 ⟨u, S2, ν2, μ2, a2, d2, z2⟩ => q S2 ν2 μ2 v w H2 t u a2.st (d.af a2) d2 z2⟩
end Mp
namespace Mp
open PySem L2 PySem.Spec PyProof.Rows
/-! ### what a def promises, where no repr is under way -/
structure FnG (G : Wd) (k : Nat) (f : Addr) (fd : FuncData) (ps : List Str) (sp : Sp) : Prop where
  len : ∀ vs H Q E, sp vs H Q E → vs.length = ps.length
  run : ∀ (A : Around) (outer : List PySem.Env) (s : Shared) (H : Hp) (args : Args) (us : List Value) (vs : List V) (Q : VK) (E : XK),
    Room k A → A.guards = some [] → Env0 G.P G.w G.K G.mg G.base A outer s H → BindsTo s fd args (ps.zip us) → Vals vs us → sp vs H Q E →
      codeAny (model G.P G.w) A (.call (.ref f) args) (CR (CX G.P G.w) outer G.P G.w H s Q E) s
/-- the context stands in the world G -/
structure InW (G : Wd) (X : Cx) : Prop where
  P : X.prog = G.P
  w : X.w = G.w
  K : X.K = G.K
  mg : X.mg = G.mg
  base : X.base = G.base
  gd : X.A.guards = some []
section
variable {G : Wd} {X : Cx} {W : WX} {k : Nat} {f : Addr} {fd : FuncData} {ps : List Str} {sp : Sp} {x : Str} {p pos : Pos} {es : List Expr} {t : TA} {e : Expr}
def notStar : Expr → Bool
  | .Starred _ _ => false
  | _ => true
theorem star_cons {env : PySem.Env} (h : notStar e = true) (es : List Expr) : starEach (e :: es) env = (false, eval e env) :: starEach es env := by
  cases e <;> first | rfl | cases h
theorem star_any {env : PySem.Env} : ∀ {es : List Expr}, es.all notStar = true → (backTo pos (starEach es env)).any (·.1) = false
  | [], _ => rfl
  | e :: es, h => by
    have h' : notStar e = true ∧ es.all notStar = true := by simpa using h
    rw [star_cons h'.1]
    show (false || (backTo pos (starEach es env)).any (·.1)) = false
    rw [star_any h'.2]
    rfl
theorem back (Iw : InW G X) (tk : Takes X W) {pins : List (Addr × Obj)} {σ : L2.St} {H : Hp} {s : Shared} {Q : VK} {us : List Value} {vs : List V} (F : FnG G k f fd ps sp) (hr : Room k X.A) (hb : Binds G.K fd ps [])
    (I : Inv X pins σ H s) (r : Vals vs us) (h : sp vs H Q (WE W σ)) : wpAny (model X.prog X.w) X.A (call (.ref f) us) (EP X pins σ Q) X.xe s := by
  have n1 : (us ++ []).length = ps.length := by
    rw [List.append_nil, ← r.length]
    exact F.len _ _ _ _ h
  have e0 := I.env0
  rw [Iw.P, Iw.w, Iw.K, Iw.mg, Iw.base] at e0
  have kin := I.kIn
  rw [Iw.K] at kin
  have bt := hb s us kin n1
  rw [List.append_nil] at bt
  have rn := F.run X.A X.stack s H ⟨us, []⟩ us vs Q (WE W σ) hr Iw.gd e0 bt r h
  rw [← Iw.P, ← Iw.w] at rn
  refine wpAny_call (codeAny_mono rn fun z s' hz => ?_)
  match z, hz with
  | .error er, hz => exact passAt tk σ pins H s er s' I hz
  | .ok (.ret u), hz => exact I.after hz
  | .ok .next, hz => exact hz.elim
  | .ok .brk, hz => exact hz.elim
  | .ok .cont, hz => exact hz.elim
def tCl (sp : Sp) (W : WX) (t : TA) : TE := fun σ H Q => t σ H fun vs H1 => sp vs H1 Q (WE W σ)
theorem pe_cl (Iw : InW G X) (tk : Takes X W) (F : FnG G k f fd ps sp) (hr : Room k X.A) (hg : Gl X x) (hm : G.mg x = some (.ref f)) (hk : PySem.W.keepIn G.K (.ref f) = true) (hb : Binds G.K fd ps [])
    (ha : PA X (e :: es) t) (ns : (e :: es).all notStar = true) (hdb : (x == ("__debug__" : Str)) = false) : PE X (.Call (.Name x p) (e :: es) [] pos) (tCl sp W t) := by
  constructor
  intro pins s σ H Q I h
  have hm' : X.mg x = some (.ref f) := by rw [Iw.mg]; exact hm
  refine wpAny_Call_Name_kw (ld_glob I hg hm' ?_ hdb)
  have kX : PySem.W.keepIn X.K (.ref f) = true := by rw [Iw.K]; exact hk
  have ns' : notStar e = true ∧ es.all notStar = true := by simpa using ns
  refine PySem.W.callWith_K (h₀ := X.base) I.ok.mod.kin kX ?_ (star_cons ns'.1 es) (star_any ns'.2)
  exact thn (ha.run pos pins s σ H _ I h) fun us s1 ⟨vs, H1, I1, r, q⟩ => ⟨I1.kIn, back Iw tk F hr hb I1 r q⟩
theorem pe_cl0 (Iw : InW G X) (tk : Takes X W) (F : FnG G k f fd ps sp) (hr : Room k X.A) (hg : Gl X x) (hm : G.mg x = some (.ref f)) (hk : PySem.W.keepIn G.K (.ref f) = true) (hb : Binds G.K fd ps [])
    (hdb : (x == ("__debug__" : Str)) = false) : PE X (.Call (.Name x p) [] [] pos) (tCl sp W tNil) := by
  constructor
  intro pins s σ H Q I h
  have hm' : X.mg x = some (.ref f) := by rw [Iw.mg]; exact hm
  refine wpAny_Call_Name_kw (ld_glob I hg hm' ?_ hdb)
  have kX : PySem.W.keepIn X.K (.ref f) = true := by rw [Iw.K]; exact hk
  exact PySem.W.callWith_K0 I.kIn kX (back (us := []) Iw tk F hr hb I .nil h)
end
/-! ### a def's body keeps its promise -/
theorem fnG_of {G : Wd} {k : Nat} {f : Addr} {name qual : Str} {params : Arguments} {body : List Stmt} {scope : Scope} {dV kV doc pm cdv ct oc : Value} {an od : Option Addr}
    {osl : Array (Option Value)} {N ps : List Str} {sp : Sp} (lk : G.K.lookup f = some ⟨oc, od, .func (PySem.W.fnOf name qual params body scope dV kV doc pm an cdv ct), osl⟩)
    (hcd : PySem.W.codeIn G.K cdv qual = true) (S : FnScope N ps scope) (len : ∀ vs H Q E, sp vs H Q E → vs.length = ps.length)
    (bd : ∀ (A : Around) (outer : List PySem.Env) (s : Shared) (H : Hp) (vs : List V) (Q : VK) (E : XK), Room k (A.deeper (envOfC qual scope s.heap.objs.size f cdv)) → A.guards = some [] → sp vs H Q E →
      ∃ t, PSs (cxOf (CX G.P G.w) G.P G.w G.K G.mg G.base N qual scope f cdv A outer s H E) body t ∧ t { nx := fun _ H' => Q .non H', rt := Q } (start N vs) H) :
    FnG G (k + 1) f (PySem.W.fnOf name qual params body scope dV kV doc pm an cdv ct) ps sp := by
  constructor
  · exact len
  intro A outer s H args us vs Q E hr hg e0 hb r hsp
  have up : ∀ b o, G.base.get? b = some o → s.heap.get? b = some o := fun b o q => (e0.bs b o q).1
  have inK : G.K.In s.heap := e0.mod.kin.keeps up
  have kinds : ∀ y ∈ ps.zip us, scope.names.lookup y.1 = some .local ∨ (scope.names.lookup y.1 = some .cell ∧ ((cellsFrom (s.heap.objs.size + 1) scope.names []).lookup y.1).isSome = true) := by
    intro y hy
    obtain ⟨n, v⟩ := y
    rcases S.par n (List.of_mem_zip hy).1 with q | q
    · exact Or.inl q
    · exact Or.inr ⟨q, PySem.W.cellsFrom_some _ _ _ (Or.inl q)⟩
  refine codeAny_call_function hr.depth (inK _ _ lk) rfl S.co S.gen rfl (PySem.W.codeRec_of inK hcd) (hb _ _ _ _ ?_)
  refine wpAny_newFunctionEnv_cells S.kind kinds ?_
  intro env he s1 x
  subst he
  constructor
  · exact (e0.mod.nolimit.keeps up).keeps x.toInCall.keep
  apply codeAny_func
  obtain ⟨t, ht, hq⟩ := bd A outer s H vs Q E (hr.deeper _) hg hsp
  have I := inv_start (CX := CX G.P G.w) (E := E) S hr.hd e0 (len _ _ _ _ hsp) r x
  refine wpAny_mono (ht.run [] s1 (start N vs) H _ I hq) ?_ fun e s' hs => hs
  intro fl s' hs
  match fl, hs with
  | .ret u, ⟨v, σ', H', J, rv, q⟩ => exact ⟨v, H', J.os, J.bare, J.base, J.hok, rv, q⟩
  | .next, ⟨σ', H', J, q⟩ => exact ⟨.non, H', J.os, J.bare, J.base, J.hok, rfl, q⟩
  | .brk, ⟨_, _, _, q⟩ => exact q.elim
  | .cont, ⟨_, _, _, q⟩ => exact q.elim
end Mp
namespace Mp
open PySem L2 PySem.Spec
section
variable {G : Wd} {ν μ ν' μ' : List Addr} {H H' : Hp} {S S' : Sto} {α β : Type} {Wc : Value → Option Addr → Hp → Prop} {D : List Addr → List Addr → Hp → α → β → Prop}
theorem Fin.opt {o : Option α} {Q : β → Hp → Prop} (h : Fin G Wc D ν μ H (opt o S) Q) : ∃ t, o = some t ∧ Fin G Wc D ν μ H (.ok t S) Q := by
  cases o with
  | none => exact h.elim
  | some t => exact ⟨t, rfl, h⟩
theorem Fin.val {t : Tv} {v : V} {Q : VK} (h : Fin G Wc (DV G) ν μ H (.ok t S) Q) (s : StR G ν μ S H) (d : Dn G ν μ H t v) : Q v H := Fin.ok h s d
/-- a new thing that is no place -/
theorem Fin.new {t : Tv} {p : Addr} {o : HO} {Q : VK} (h : Fin G Wc (DV G) ν μ H (.ok t S) Q) (s : StR G ν μ S H) (hp : H p = none) (d : Dn G ν μ (upd H p o) t (.ref p)) : Q (.ref p) (upd H p o) :=
  h (.ref p) _ ν μ (.new1 s hp) d
/-- a new list -/
theorem Dn.lst {ts : List Tv} {vs : List V} {p : Addr} (hn : p ∉ ν) (e : H p = some (.lst vs)) (d : Dns G ν μ H ts vs) : Dn G ν μ H (.lst ts) (.ref p) := by
  simp only [Dn]
  exact ⟨p, vs, rfl, ⟨hn, e⟩, d⟩
theorem Dn.tup {ts : List Tv} {vs : List V} {p : Addr} (hn : p ∉ ν) (e : H p = some (.tup vs)) (d : Dns G ν μ H ts vs) : Dn G ν μ H (.tup ts) (.ref p) := by
  simp only [Dn]
  exact ⟨p, vs, rfl, .inl ⟨hn, .inl e⟩, d⟩
theorem Fin.newL {ts : List Tv} {vs : List V} {p : Addr} {Q : VK} (h : Fin G Wc (DV G) ν μ H (.ok (.lst ts) S) Q) (s : StR G ν μ S H) (hp : H p = none) (d : Dns G ν μ H ts vs) : Q (.ref p) (upd H p (.lst vs)) :=
  h.new s hp (Dn.lst (s.fresh hp) upd_same (Dns.kp (.new1 hp) (List.prefix_refl _) _ _ d))
theorem Fin.newT {ts : List Tv} {vs : List V} {p : Addr} {Q : VK} (h : Fin G Wc (DV G) ν μ H (.ok (.tup ts) S) Q) (s : StR G ν μ S H) (hp : H p = none) (d : Dns G ν μ H ts vs) : Q (.ref p) (upd H p (.tup vs)) :=
  h.new s hp (Dn.tup (s.fresh hp) upd_same (Dns.kp (.new1 hp) (List.prefix_refl _) _ _ d))
/-- what a list, a tuple is -/
theorem lst_of {t : Tv} {v : V} {ts : List Tv} (s : StR G ν μ S H) (d : Dn G ν μ H t v) (e : lstOf S t = some ts) : ∃ a vs, v = .ref a ∧ H a = some (.lst vs) ∧ Dns G ν μ H ts vs := by
  cases t with
  | lst us =>
    simp only [lstOf, Option.some.injEq] at e
    subst e
    simp only [Dn] at d
    obtain ⟨a, vs, e, f, d⟩ := d
    exact ⟨a, vs, e, f.2, d⟩
  | cell n =>
    simp only [lstOf] at e
    simp only [Dn] at d
    obtain ⟨a, ev, ea⟩ := d
    split at e
    · rename_i us hs
      cases e
      obtain ⟨vs, q, d⟩ := s.at hs ea
      exact ⟨a, vs, ev, q, d⟩
    · cases e
  | _ => simp [lstOf] at e
theorem seq_of {t : Tv} {v : V} {ts : List Tv} (s : StR G ν μ S H) (d : Dn G ν μ H t v) (e : seqOf S t = some ts) : ∃ a vs, v = .ref a ∧ (SqL G.K H a vs ∨ SqT G.K H a vs) ∧ Dns G ν μ H ts vs := by
  cases t with
  | tup us =>
    simp only [seqOf, Option.some.injEq] at e
    subst e
    simp only [Dn] at d
    obtain ⟨a, vs, e, f, d⟩ := d
    exact ⟨a, vs, e, .inr f.sq, d⟩
  | lst us =>
    obtain ⟨a, vs, e, f, d⟩ := lst_of (ts := ts) s d (by simpa [seqOf, lstOf] using e)
    exact ⟨a, vs, e, .inl (.inl (.inl f)), d⟩
  | cell n =>
    obtain ⟨a, vs, e, f, d⟩ := lst_of (ts := ts) s d (by simpa [seqOf, lstOf] using e)
    exact ⟨a, vs, e, .inl (.inl (.inl f)), d⟩
  | _ => simp [seqOf] at e
theorem ints_of : ∀ {ts : List Tv} {vs : List V} {ns : List Int}, Dns G ν μ H ts vs → intsOf ts = some ns → vs = ns.map V.int
  | [], vs, ns, d, e => by
    simp only [intsOf, Option.some.injEq] at e
    simp only [Dns] at d
    rw [d, ← e] <;> rfl
  | t :: r, vs, ns, d, e => by
    simp only [Dns] at d
    obtain ⟨v, vr, rfl, d1, d2⟩ := d
    cases t with
    | int i =>
      simp only [intsOf] at e
      cases h : intsOf r with
      | none => rw [h] at e; cases e
      | some ms =>
        rw [h] at e
        cases e
        simp only [Dn] at d1
        rw [d1, ints_of d2 h] <;> rfl
    | _ => simp [intsOf] at e
theorem bls_of : ∀ {ts : List Tv} {vs : List V} {ns : List Bool}, Dns G ν μ H ts vs → blsOf ts = some ns → vs = ns.map V.bl
  | [], vs, ns, d, e => by
    simp only [blsOf, Option.some.injEq] at e
    simp only [Dns] at d
    rw [d, ← e] <;> rfl
  | t :: r, vs, ns, d, e => by
    simp only [Dns] at d
    obtain ⟨v, vr, rfl, d1, d2⟩ := d
    cases t with
    | bl i =>
      simp only [blsOf] at e
      cases h : blsOf r with
      | none => rw [h] at e; cases e
      | some ms =>
        rw [h] at e
        cases e
        simp only [Dn] at d1
        rw [d1, bls_of d2 h] <;> rfl
    | _ => simp [blsOf] at e
theorem lim_le {n : Nat} (h : n ≤ lim) : n ≤ sizeLine := Nat.le_trans h (by rw [sizeLine_eq]; unfold lim; decide)
end
/-! ### sum, max, min of lists and of tuples -/
section
variable {X : Cx}
theorem CallR.imp {f : Value} {r r' : List V → Hp → VK → Prop} (h : CallR X f r) (i : ∀ vs H Q, r' vs H Q → r vs H Q) : CallR X f r' :=
  fun pins s σ H vs us Q I rv q => h pins s σ H vs us Q I rv (i vs H Q q)
theorem holdInts {h : Heap} : ∀ {us : List Value} {ns : List Int}, PyProof.Rows.IntsAre us ns → PySem.W.HoldAll h us ns
  | [], _, .nil => ⟨_, .nil⟩
  | _ :: _, _, .cons n t r => by
    obtain ⟨as, q⟩ := holdInts (h := h) r
    exact ⟨_, .cons (.int n t) q⟩
theorem holds_int {h : Heap} {v : Value} {n : Int} (q : PySem.W.Holds h v n) : ∃ t, v = .int n t := by
  obtain ⟨as, r⟩ := q
  cases r with
  | int i t => exact ⟨t, rfl⟩
def rSumT (K : PySem.W.Frag) : List V → Hp → VK → Prop := fun vs H Q => ∃ (a : Addr) (ns : List Int), vs = [V.ref a] ∧ SqT K H a (ns.map V.int) ∧ Q (.int ns.sum) H
theorem cr_sumT (hc : X.calm = true) : CallR X (.builtin "sum") (rSumT X.K) := by
  intro pins s σ H vs us Q I r h
  obtain ⟨a, ns, rfl, hs, q⟩ := h
  obtain ⟨its, rv, hl, _⟩ := I.tuple hs
  rw [Vals.ref1 r]
  obtain ⟨xs, hx⟩ := rv.ints.allInts.items
  have hn : numsOf its.toArray.toList = ns := by rw [show its.toArray.toList = its from rfl, rv.ints.numsOf]
  rw [hx] at hl hn
  rw [nums_intItems] at hn
  refine PySem.W.ktm_sumG (I.ok.hd hc) hl fun h' tk t' hk => ?_
  refine ⟨.int _, H, I.kept hk, ⟨t', ?_⟩, q⟩
  rw [preSum_eq, List.take_of_length_le (by simp), hn]
def rMM (K : PySem.W.Frag) (f : List Int → Int) : List V → Hp → VK → Prop := fun vs H Q => ∃ (a : Addr) (ns : List Int), vs = [V.ref a] ∧ (SqL K H a (ns.map V.int) ∨ SqT K H a (ns.map V.int)) ∧ 0 < ns.length ∧ Q (.int (f ns)) H
theorem cr_minA (hc : X.calm = true) (hu : X.A.units + 64 < cLine) : CallR X (.builtin "min") (rMM X.K leastOf) := by
  intro pins s σ H vs us Q I r h
  obtain ⟨a, ns, rfl, hs, hn, q⟩ := h
  rw [Vals.ref1 r]
  cases ns with
  | nil => exact absurd hn (by simp)
  | cons x xs =>
    have fin : ∀ (v : Value) (h' : Heap) (tk : Nat), PySem.W.Holds h' v (PySem.W.minOf x xs) → (∀ b o, s.heap.get? b = some o → h'.get? b = some o) → EP X pins σ Q v { s with heap := h', toks := tk } := by
      intro v h' tk hv hk
      obtain ⟨t, rfl⟩ := holds_int hv
      exact ⟨.int _, H, I.kept hk, ⟨t, rfl⟩, q⟩
    rcases hs with hs | hs
    · obtain ⟨its, rv, hl, _⟩ := I.list hs
      exact PySem.W.min_list_datum (α := Int) (I.ok.hd hc) hl.isList (holdInts rv.ints) (by show X.A.units + 1 + 0 < cLine; omega) fun i v h' tk _ hv hk => fin v h' tk hv hk
    · obtain ⟨its, rv, hl, _⟩ := I.tuple hs
      exact PySem.W.min_tuple_datum (α := Int) (I.ok.hd hc) hl (holdInts rv.ints) (by show X.A.units + 1 + 0 < cLine; omega) fun i v h' tk _ hv hk => fin v h' tk hv hk
theorem cr_maxA (hc : X.calm = true) (hu : X.A.units + 64 < cLine) : CallR X (.builtin "max") (rMM X.K mostOf) := by
  intro pins s σ H vs us Q I r h
  obtain ⟨a, ns, rfl, hs, hn, q⟩ := h
  rw [Vals.ref1 r]
  cases ns with
  | nil => exact absurd hn (by simp)
  | cons x xs =>
    have fin : ∀ (v : Value) (h' : Heap) (tk : Nat), PySem.W.Holds h' v (PySem.W.maxOf x xs) → (∀ b o, s.heap.get? b = some o → h'.get? b = some o) → EP X pins σ Q v { s with heap := h', toks := tk } := by
      intro v h' tk hv hk
      obtain ⟨t, rfl⟩ := holds_int hv
      exact ⟨.int _, H, I.kept hk, ⟨t, rfl⟩, q⟩
    rcases hs with hs | hs
    · obtain ⟨its, rv, hl, _⟩ := I.list hs
      exact PySem.W.max_list_datum (α := Int) (I.ok.hd hc) hl.isList (holdInts rv.ints) (by show X.A.units + 1 + 0 < cLine; omega) fun i v h' tk _ hv hk => fin v h' tk hv hk
    · obtain ⟨its, rv, hl, _⟩ := I.tuple hs
      exact PySem.W.max_tuple_datum (α := Int) (I.ok.hd hc) hl (holdInts rv.ints) (by show X.A.units + 1 + 0 < cLine; omega) fun i v h' tk _ hv hk => fin v h' tk hv hk
end
/-! ### data: == and repr -/
mutual
/-- the library's data -/
def Tv.pd : Tv → PyData
  | .non => .none
  | .bl b => .bool b
  | .int i => .int i
  | .str x => .str x
  | .tup ts => .tuple (Tv.pds ts)
  | .lst ts => .list (Tv.pds ts)
  | .dct => .dict []
  | _ => .none
def Tv.pds : List Tv → List PyData
  | [] => []
  | t :: r => Tv.pd t :: Tv.pds r
end
mutual
theorem pd_shown : ∀ t : Tv, ∀ k, t.rOk k = true → (Tv.pd t).shown = t.shown
  | .non, _, _ => rfl
  | .bl b, _, _ => rfl
  | .int i, _, _ => rfl
  | .str x, _, _ => rfl
  | .tup ts, k, h => by
    cases k with
    | zero => simp [Tv.rOk] at h
    | succ k =>
      simp only [Tv.pd, Tv.shown, PyData.shown]
      rw [pds_shown ts k (by simpa [Tv.rOk] using h)]
  | .lst ts, k, h => by
    cases k with
    | zero => simp [Tv.rOk] at h
    | succ k =>
      simp only [Tv.pd, Tv.shown, PyData.shown]
      rw [pds_shown ts k (by simpa [Tv.rOk] using h)]
  | .dct, _, _ => by decide +kernel
  | .scr _, k, h => by cases k <;> simp [Tv.rOk] at h
  | .ins _ _, k, h => by cases k <;> simp [Tv.rOk] at h
  | .cell _, k, h => by cases k <;> simp [Tv.rOk] at h
theorem pds_shown : ∀ ts : List Tv, ∀ k, Tv.rOks k ts = true → PyData.shownAll (Tv.pds ts) = Tv.showns ts
  | [], _, _ => rfl
  | t :: r, k, h => by
    have h' : t.rOk k = true ∧ Tv.rOks k r = true := by simpa [Tv.rOks] using h
    simp only [Tv.pds, Tv.showns, PyData.shownAll]
    rw [pd_shown t k h'.1, pds_shown r k h'.2]
end
set_option exponentiation.threshold 3000 in
theorem int_len {i : Int} (h : i.natAbs.log2 < 1920) : (PyData.shown (.int i)).length ≤ 600 := by
  have h1 : i.natAbs < 2 ^ 1920 := by
    by_cases z : i.natAbs = 0
    · rw [z]; exact Nat.two_pow_pos _
    · exact (Nat.log2_lt z).mp h
  have h2 : i.natAbs < 10 ^ 578 := Nat.lt_of_lt_of_le h1 (Nat.le_of_ble_eq_true rfl)
  have e := int_text_length_le10 (k := 578) (by decide) h2
  show (Str.ofString (toString i)).length ≤ 600
  rw [PySem.ofString_length]
  omega
mutual
theorem pd_ok : ∀ t : Tv, ∀ k, t.rOk k = true → (Tv.pd t).showable = true ∧ (Tv.pd t).leavesShort 600 = true ∧ (Tv.pd t).depth ≤ k + 1 ∧ (Tv.pd t).bulk = t.bulk
  | .non, _, _ => ⟨rfl, rfl, Nat.zero_le _, rfl⟩
  | .bl b, _, _ => ⟨rfl, rfl, Nat.zero_le _, rfl⟩
  | .int i, k, h => by
    have h' : i.natAbs.log2 < 1920 := by cases k <;> simpa [Tv.rOk] using h
    refine ⟨by simpa [Tv.pd, PyData.showable] using h', ?_, Nat.zero_le _, rfl⟩
    simp only [Tv.pd, PyData.leavesShort, decide_eq_true_eq]
    exact int_len h'
  | .str x, k, h => by
    refine ⟨rfl, ?_, Nat.zero_le _, rfl⟩
    cases k <;> simpa [Tv.rOk, Tv.pd, PyData.leavesShort] using h
  | .tup ts, k, h => by
    cases k with
    | zero => simp [Tv.rOk] at h
    | succ k =>
      obtain ⟨h1, h2, h3, h4⟩ := pds_ok ts k (by simpa [Tv.rOk] using h)
      exact ⟨by simpa [Tv.pd, PyData.showable] using h1, by simpa [Tv.pd, PyData.leavesShort] using h2, by simp only [Tv.pd, PyData.depth]; omega, by simpa [Tv.pd, PyData.bulk, Tv.bulk] using h4⟩
  | .lst ts, k, h => by
    cases k with
    | zero => simp [Tv.rOk] at h
    | succ k =>
      obtain ⟨h1, h2, h3, h4⟩ := pds_ok ts k (by simpa [Tv.rOk] using h)
      exact ⟨by simpa [Tv.pd, PyData.showable] using h1, by simpa [Tv.pd, PyData.leavesShort] using h2, by simp only [Tv.pd, PyData.depth]; omega, by simpa [Tv.pd, PyData.bulk, Tv.bulk] using h4⟩
  | .dct, _, _ => ⟨rfl, rfl, by simp [Tv.pd, PyData.depth, PyData.depthKv], rfl⟩
  | .scr _, k, h => by cases k <;> simp [Tv.rOk] at h
  | .ins _ _, k, h => by cases k <;> simp [Tv.rOk] at h
  | .cell _, k, h => by cases k <;> simp [Tv.rOk] at h
theorem pds_ok : ∀ ts : List Tv, ∀ k, Tv.rOks k ts = true → PyData.showableAll (Tv.pds ts) = true ∧ PyData.leavesShortAll 600 (Tv.pds ts) = true ∧ PyData.depthAll (Tv.pds ts) ≤ k + 1 ∧ PyData.bulkAll (Tv.pds ts) = Tv.bulks ts
  | [], _, _ => ⟨rfl, rfl, Nat.zero_le _, rfl⟩
  | t :: r, k, h => by
    have h' : t.rOk k = true ∧ Tv.rOks k r = true := by simpa [Tv.rOks] using h
    obtain ⟨a1, a2, a3, a4⟩ := pd_ok t k h'.1
    obtain ⟨b1, b2, b3, b4⟩ := pds_ok r k h'.2
    refine ⟨by simp [Tv.pds, PyData.showableAll, a1, b1], by simp [Tv.pds, PyData.leavesShortAll, a2, b2], ?_, by simp only [Tv.pds, PyData.bulkAll, Tv.bulks, a4, b4]⟩
    simp only [Tv.pds, PyData.depthAll]
    omega
end
theorem thaw_dn {G : Wd} {ν μ : List Addr} {H : Hp} {S : Sto} {t x : Tv} {v : V} (s : StR G ν μ S H) (d : Dn G ν μ H t v) (e : thaw S t = some x) :
    Dn G ν μ H x v ∨ ∃ ts a vs, x = .lst ts ∧ v = .ref a ∧ H a = some (.lst vs) ∧ Dns G ν μ H ts vs := by
  cases t with
  | cell n =>
    simp only [thaw] at e
    simp only [Dn] at d
    obtain ⟨a, ev, ea⟩ := d
    split at e
    · rename_i us hs
      cases e
      obtain ⟨vs, q, d⟩ := s.at hs ea
      exact .inr ⟨us, a, vs, rfl, ev, q, d⟩
    · cases e
  | _ =>
    simp only [thaw, Option.some.injEq] at e
    subst e
    exact .inl d
section
variable {G : Wd} {ν μ : List Addr} {H : Hp} {S : Sto} {X : Cx} {pins : List (Addr × Obj)} {σ : St} {s : Shared}
theorem not_sys (Iw : InW G X) (hb : ∃ o, G.base.get? sysModules = some o) (I : L2.Inv X pins σ H s) {a : Addr} {o : HO} (e : H a = some o) : a ≠ sysModules := by
  rintro rfl
  obtain ⟨o', q⟩ := hb
  rw [← Iw.base] at q
  have := (I.bs _ _ q).2
  rw [e] at this
  cases this
mutual
theorem rd_of (Iw : InW G X) (hb : ∃ o, G.base.get? sysModules = some o) (I : L2.Inv X pins σ H s) : ∀ (t : Tv) (v : V) (u : Value) (k : Nat), t.rOk k = true → Dn G ν μ H t v → RelV v u → ∃ as, Reads s.heap u t.pd as ∧ sysModules ∉ as
  | .non, v, u, k, _, d, r => by
    simp only [Dn] at d
    subst d
    cases r
    exact ⟨_, .none, by simp⟩
  | .bl b, v, u, k, _, d, r => by
    simp only [Dn] at d
    subst d
    cases r
    exact ⟨_, .bool b, by simp⟩
  | .int i, v, u, k, _, d, r => by
    simp only [Dn] at d
    subst d
    obtain ⟨t, rfl⟩ := r
    exact ⟨_, .int i t, by simp⟩
  | .str x, v, u, k, _, d, r => by
    simp only [Dn] at d
    subst d
    obtain ⟨t, rfl⟩ := r
    exact ⟨_, .str x t, by simp⟩
  | .tup ts, v, u, k, h, d, r => by
    cases k with
    | zero => simp [Tv.rOk] at h
    | succ k =>
      simp only [Dn] at d
      obtain ⟨a, vs, rfl, f, d⟩ := d
      cases r
      have sq : SqT X.K H a vs := by rw [Iw.K]; exact f.sq
      obtain ⟨its, rv, ⟨o, ho, hc, n, hd⟩, _⟩ := I.tuple sq
      obtain ⟨as, q, z⟩ := rds_of Iw hb I ts vs its k (by simpa [Tv.rOk] using h) d rv
      exact ⟨as, .tuple ho hc hd q, z⟩
  | .lst ts, v, u, k, h, d, r => by
    cases k with
    | zero => simp [Tv.rOk] at h
    | succ k =>
      simp only [Dn] at d
      obtain ⟨a, vs, rfl, f, d⟩ := d
      cases r
      obtain ⟨its, rv, ⟨o, n, ho, hc, _, hd⟩, _⟩ := I.list (show SqL X.K H a vs from .inl (.inl f.2))
      obtain ⟨as, q, z⟩ := rds_of Iw hb I ts vs its k (by simpa [Tv.rOk] using h) d rv
      have e' := f.2
      refine ⟨a :: as, .list ho hc hd q, fun m => ?_⟩
      rcases List.mem_cons.mp m with m | m
      · exact not_sys Iw hb I e' m.symm
      · exact z m
  | .dct, v, u, k, _, d, r => by
    simp only [Dn] at d
    obtain ⟨a, rfl, n, e⟩ := d
    cases r
    obtain ⟨_, hs, vs, kv, o, es, ep, ho, hx, hd, _, hp, _⟩ := (show ObjOk X.prog X.w H s.heap a (.dK []) from I.hok a _ e)
    cases kv
    have he : es.toList = [] := by
      cases h : es.toList with
      | nil => rfl
      | cons x r => rw [h] at hp; cases hp
    refine ⟨_, .dict (as := []) (bs := []) (kvs := []) ho hx.1 hd (by rw [he]; exact .nil) (by rw [he]; exact .nil), fun m => ?_⟩
    have m' : sysModules = a := by simpa using m
    rw [m'] at hs
    simp at hs
  | .scr _, v, u, k, h, _, _ => by cases k <;> simp [Tv.rOk] at h
  | .ins _ _, v, u, k, h, _, _ => by cases k <;> simp [Tv.rOk] at h
  | .cell _, v, u, k, h, _, _ => by cases k <;> simp [Tv.rOk] at h
theorem rds_of (Iw : InW G X) (hb : ∃ o, G.base.get? sysModules = some o) (I : L2.Inv X pins σ H s) : ∀ (ts : List Tv) (vs : List V) (us : List Value) (k : Nat), Tv.rOks k ts = true → Dns G ν μ H ts vs → Vals vs us → ∃ as, ReadsAll s.heap us (Tv.pds ts) as ∧ sysModules ∉ as
  | [], vs, us, k, _, d, r => by
    simp only [Dns] at d
    subst d
    cases r
    exact ⟨_, .nil, by simp⟩
  | t :: ts, vs, us, k, h, d, r => by
    have h' : t.rOk k = true ∧ Tv.rOks k ts = true := by simpa [Tv.rOks] using h
    simp only [Dns] at d
    obtain ⟨v, vr, rfl, d1, d2⟩ := d
    cases r with
    | cons r1 r2 =>
      obtain ⟨as, q1, z1⟩ := rd_of Iw hb I t v _ k h'.1 d1 r1
      obtain ⟨bs, q2, z2⟩ := rds_of Iw hb I ts vr _ k h'.2 d2 r2
      exact ⟨_, .cons q1 q2, fun m => (List.mem_append.mp m).elim z1 z2⟩
end
mutual
theorem dp_of : ∀ (t : Tv) (v : V) (k : Nat), t.dOk k = true → Dn G ν μ H t v → Dp G.K H v t.pd
  | .non, v, k, _, d => by
    simp only [Dn] at d
    subst d
    exact .non
  | .bl b, v, k, _, d => by
    simp only [Dn] at d
    subst d
    exact .bl b
  | .int i, v, k, _, d => by
    simp only [Dn] at d
    subst d
    exact .int i
  | .str x, v, k, _, d => by
    simp only [Dn] at d
    subst d
    exact .str x
  | .tup ts, v, k, h, d => by
    cases k with
    | zero => simp [Tv.dOk] at h
    | succ k =>
      simp only [Dn] at d
      obtain ⟨a, vs, rfl, f, d⟩ := d
      exact .tup f.sq (dps_of ts vs k (by simpa [Tv.dOk] using h) d)
  | .lst ts, v, k, h, d => by
    cases k with
    | zero => simp [Tv.dOk] at h
    | succ k =>
      simp only [Dn] at d
      obtain ⟨a, vs, rfl, f, d⟩ := d
      exact .lst f.sq (dps_of ts vs k (by simpa [Tv.dOk] using h) d)
  | .dct, v, k, h, _ => by cases k <;> simp [Tv.dOk] at h
  | .scr _, v, k, h, _ => by cases k <;> simp [Tv.dOk] at h
  | .ins _ _, v, k, h, _ => by cases k <;> simp [Tv.dOk] at h
  | .cell _, v, k, h, _ => by cases k <;> simp [Tv.dOk] at h
theorem dps_of : ∀ (ts : List Tv) (vs : List V) (k : Nat), Tv.dOks k ts = true → Dns G ν μ H ts vs → DpAll G.K H vs (Tv.pds ts)
  | [], vs, k, _, d => by
    simp only [Dns] at d
    subst d
    exact .nil
  | t :: ts, vs, k, h, d => by
    have h' : t.dOk k = true ∧ Tv.dOks k ts = true := by simpa [Tv.dOks] using h
    simp only [Dns] at d
    obtain ⟨v, vr, rfl, d1, d2⟩ := d
    exact .cons (dp_of t v k h'.1 d1) (dps_of ts vr k h'.2 d2)
end
end
mutual
theorem pd_shape : ∀ (t : Tv) (k : Nat), t.dOk k = true → t.pd.canLay0 = true ∧ t.pd.depth ≤ k
  | .non, k, _ => ⟨rfl, Nat.zero_le _⟩
  | .bl _, k, _ => ⟨rfl, Nat.zero_le _⟩
  | .int _, k, _ => ⟨rfl, Nat.zero_le _⟩
  | .str x, k, h => ⟨by cases k <;> simpa [Tv.dOk, Tv.pd] using h, Nat.zero_le _⟩
  | .tup ts, k, h => by
    cases k with
    | zero => simp [Tv.dOk] at h
    | succ k =>
      obtain ⟨h1, h2⟩ := pds_shape ts k (by simpa [Tv.dOk] using h)
      exact ⟨by simpa [Tv.pd, PyData.canLay0] using h1, by simp only [Tv.pd, PyData.depth]; omega⟩
  | .lst ts, k, h => by
    cases k with
    | zero => simp [Tv.dOk] at h
    | succ k =>
      obtain ⟨h1, h2⟩ := pds_shape ts k (by simpa [Tv.dOk] using h)
      exact ⟨by simpa [Tv.pd, PyData.canLay0] using h1, by simp only [Tv.pd, PyData.depth]; omega⟩
  | .dct, k, h => by cases k <;> simp [Tv.dOk] at h
  | .scr _, k, h => by cases k <;> simp [Tv.dOk] at h
  | .ins _ _, k, h => by cases k <;> simp [Tv.dOk] at h
  | .cell _, k, h => by cases k <;> simp [Tv.dOk] at h
theorem pds_shape : ∀ (ts : List Tv) (k : Nat), Tv.dOks k ts = true → PyData.canLayAll0 (Tv.pds ts) = true ∧ PyData.depthAll (Tv.pds ts) ≤ k
  | [], k, _ => ⟨rfl, Nat.zero_le _⟩
  | t :: ts, k, h => by
    have h' : t.dOk k = true ∧ Tv.dOks k ts = true := by simpa [Tv.dOks] using h
    obtain ⟨a1, a2⟩ := pd_shape t k h'.1
    obtain ⟨b1, b2⟩ := pds_shape ts k h'.2
    refine ⟨by simp [Tv.pds, PyData.canLayAll0, a1, b1], ?_⟩
    simp only [Tv.pds, PyData.depthAll]
    omega
end
theorem shaped_of {t : Tv} (h : t.dOk 16 = true) : SeqAt.shaped t.pd = true := by
  obtain ⟨h1, h2⟩ := pd_shape t 16 h
  unfold SeqAt.shaped
  rw [h1, decide_eq_true (show t.pd.depth ≤ 64 by omega)] <;> rfl
mutual
theorem pd_eqv : ∀ (a b : Tv) (k l : Nat), a.dOk k = true → b.dOk l = true → PyData.eqv a.pd b.pd = Tv.eqb a b
  | .non, b, k, l, _, h => by cases b <;> first | rfl | (cases l <;> simp [Tv.dOk] at h)
  | .bl _, b, k, l, _, h => by cases b <;> first | rfl | (cases l <;> simp [Tv.dOk] at h)
  | .int _, b, k, l, _, h => by cases b <;> first | rfl | (cases l <;> simp [Tv.dOk] at h)
  | .str _, b, k, l, _, h => by cases b <;> first | rfl | (cases l <;> simp [Tv.dOk] at h)
  | .tup ts, b, k, l, g, h => by
    cases k with
    | zero => simp [Tv.dOk] at g
    | succ k =>
      cases b with
      | tup us =>
        cases l with
        | zero => simp [Tv.dOk] at h
        | succ l =>
          simp only [Tv.pd, PyData.eqv, Tv.eqb]
          exact pds_eqv ts us k l (by simpa [Tv.dOk] using g) (by simpa [Tv.dOk] using h)
      | _ => first | rfl | (cases l <;> simp [Tv.dOk] at h)
  | .lst ts, b, k, l, g, h => by
    cases k with
    | zero => simp [Tv.dOk] at g
    | succ k =>
      cases b with
      | lst us =>
        cases l with
        | zero => simp [Tv.dOk] at h
        | succ l =>
          simp only [Tv.pd, PyData.eqv, Tv.eqb]
          exact pds_eqv ts us k l (by simpa [Tv.dOk] using g) (by simpa [Tv.dOk] using h)
      | _ => first | rfl | (cases l <;> simp [Tv.dOk] at h)
  | .dct, _, k, l, h, _ => by cases k <;> simp [Tv.dOk] at h
  | .scr _, _, k, l, h, _ => by cases k <;> simp [Tv.dOk] at h
  | .ins _ _, _, k, l, h, _ => by cases k <;> simp [Tv.dOk] at h
  | .cell _, _, k, l, h, _ => by cases k <;> simp [Tv.dOk] at h
theorem pds_eqv : ∀ (a b : List Tv) (k l : Nat), Tv.dOks k a = true → Tv.dOks l b = true → PyData.eqvAll (Tv.pds a) (Tv.pds b) = Tv.eqbs a b
  | [], b, k, l, _, h => by cases b <;> rfl
  | x :: r, b, k, l, g, h => by
    cases b with
    | nil => rfl
    | cons y s =>
      have g' : x.dOk k = true ∧ Tv.dOks k r = true := by simpa [Tv.dOks] using g
      have h' : y.dOk l = true ∧ Tv.dOks l s = true := by simpa [Tv.dOks] using h
      simp only [Tv.pds, PyData.eqvAll, Tv.eqbs]
      rw [pd_eqv x y k l g'.1 h'.1, pds_eqv r s k l g'.2 h'.2]
end
end Mp
namespace Mp
open PySem L2 PySem.Spec
/-- the def's names and scope, the level of its calls, what is wanted of errors -/
structure Gd (G : Wd) (n : Nat) (N : List Str) (sc : Scope) (W : WX) (X : Cx) : Prop where
  iw : InW G X
  nms : X.N = N
  sc : X.env.scope = sc
  nd : N.Nodup
  calm : X.calm = true
  room : Room n X.A
  tk : Takes X W
  sys : ∃ o, G.base.get? sysModules = some o
section
variable {G : Wd} {n : Nat} {N : List Str} {sc : Scope} {W : WX} {X : Cx} {Wc : Value → Option Addr → Hp → Prop}
theorem Gd.hu (g : Gd G n N sc W X) : X.A.units + 64 < cLine := g.room.units
def rP (G : Wd) (Wc : Value → Option Addr → Hp → Prop) (p : Pr) : List V → Hp → VK → Prop := fun vs H Q => ∃ ts S ν μ, StR G ν μ S H ∧ Dns G ν μ H ts vs ∧ Fin G Wc (DV G) ν μ H (opt (primV p S ts) S) Q
theorem dn_int {ν μ : List Addr} {H : Hp} {i : Int} : Dn G ν μ H (.int i) (.int i) := by simp only [Dn]
theorem dn_bl {ν μ : List Addr} {H : Hp} {b : Bool} : Dn G ν μ H (.bl b) (.bl b) := by simp only [Dn]
theorem dn_str {ν μ : List Addr} {H : Hp} {x : Str} : Dn G ν μ H (.str x) (.str x) := by simp only [Dn]
theorem dn_non {ν μ : List Addr} {H : Hp} : Dn G ν μ H .non .non := by simp only [Dn]
theorem seq_len {ν μ : List Addr} {H : Hp} {S : Sto} {t u : Tv} {v : V} (s : StR G ν μ S H) (d : Dn G ν μ H t v) (e : lenV S t = some u) : ∃ k : Nat, u = .int k ∧ LenV G.K v H k := by
  have gen : ∀ ts, seqOf S t = some ts → ∃ k : Nat, Tv.int ts.length = .int k ∧ LenV G.K v H k := fun ts h => by
    obtain ⟨a, vs, rfl, q, d⟩ := seq_of s d h
    refine ⟨ts.length, rfl, ?_⟩
    rcases q with q | q
    · exact .inl ⟨vs, q, d.length⟩
    · exact .inr ⟨vs, q, d.length⟩
  cases t with
  | str x =>
    simp only [lenV] at e
    split at e
    · rename_i h
      cases e
      simp only [Dn] at d
      subst d
      exact ⟨_, rfl, lim_le h, rfl⟩
    · cases e
  | _ =>
    simp only [lenV] at e
    obtain ⟨ts, h1, h2⟩ := Option.map_eq_some_iff.mp e
    obtain ⟨k, h3, h4⟩ := gen ts h1
    exact ⟨k, by rw [← h2, h3], h4⟩
theorem cr_len (g : Gd G n N sc W X) : CallR X (.builtin "len") (rP G Wc .len) := by
  refine CallR.imp call_len fun vs H Q ⟨ts, S, ν, μ, s, dd, h⟩ => ?_
  obtain ⟨t, e, h⟩ := h.opt
  rcases ts with _ | ⟨a, _ | ⟨b, r⟩⟩
  · cases e
  · obtain ⟨v, rfl, d⟩ := dd.un1
    obtain ⟨k, rfl, q⟩ := seq_len s d e
    exact ⟨v, k, rfl, by rw [g.iw.K]; exact q, h.val s dn_int⟩
  · cases e
theorem cr_tuple (g : Gd G n N sc W X) : CallR X (.type "tuple") (rP G Wc .tuple) := by
  refine CallR.imp call_tuple_of fun vs H Q ⟨ts, S, ν, μ, s, dd, h⟩ => ?_
  obtain ⟨t, e, h⟩ := h.opt
  rcases ts with _ | ⟨a, _ | ⟨b, r⟩⟩
  · cases e
  · obtain ⟨v, rfl, d⟩ := dd.un1
    have e' : (seqOf S a).map Tv.tup = some t := e
    obtain ⟨us, h1, rfl⟩ := Option.map_eq_some_iff.mp e'
    cases a with
    | tup ws =>
      simp only [seqOf, Option.some.injEq] at h1
      subst h1
      simp only [Dn] at d
      obtain ⟨p, xs, rfl, f, d⟩ := d
      refine ⟨p, xs, rfl, .inr ⟨by rw [g.iw.K]; exact f.sq, h.val s ?_⟩⟩
      simp only [Dn]
      exact ⟨p, xs, rfl, f, d⟩
    | lst ws =>
      obtain ⟨p, xs, rfl, q, d2⟩ := lst_of (ts := us) s d (by simpa [seqOf, lstOf] using h1)
      have hh : Fin G Wc (DV G) ν μ H (.ok (.tup us) S) Q := by assumption
      exact ⟨p, xs, rfl, .inl ⟨.inl (.inl q), fun l hl => hh.newT s hl d2⟩⟩
    | cell m =>
      obtain ⟨p, xs, rfl, q, d2⟩ := lst_of (ts := us) s d (by simpa [seqOf, lstOf] using h1)
      have hh : Fin G Wc (DV G) ν μ H (.ok (.tup us) S) Q := by assumption
      exact ⟨p, xs, rfl, .inl ⟨.inl (.inl q), fun l hl => hh.newT s hl d2⟩⟩
    | _ => simp [seqOf] at h1
  · cases e
theorem cr_int (g : Gd G n N sc W X) : CallR X (.type "int") (rP G Wc .int) := by
  refine CallR.imp call_int1 fun vs H Q ⟨ts, S, ν, μ, s, dd, h⟩ => ?_
  obtain ⟨t, e, h⟩ := h.opt
  rcases ts with _ | ⟨a, _ | ⟨b, r⟩⟩
  · cases e
  · obtain ⟨v, rfl, d⟩ := dd.un1
    cases a with
    | int i =>
      cases e
      simp only [Dn] at d
      subst d
      exact .inl ⟨i, rfl, h.val s dn_int⟩
    | bl k =>
      cases e
      simp only [Dn] at d
      subst d
      exact .inr ⟨k, rfl, h.val s dn_int⟩
    | _ => cases e
  · cases a <;> cases e
theorem cr_abs (g : Gd G n N sc W X) : CallR X (.builtin "abs") (rP G Wc .abs) := by
  refine CallR.imp call_abs fun vs H Q ⟨ts, S, ν, μ, s, dd, h⟩ => ?_
  obtain ⟨t, e, h⟩ := h.opt
  rcases ts with _ | ⟨a, _ | ⟨b, r⟩⟩
  · cases e
  · obtain ⟨v, rfl, d⟩ := dd.un1
    cases a with
    | int i =>
      cases e
      simp only [Dn] at d
      subst d
      exact ⟨i, rfl, h.val s dn_int⟩
    | _ => cases e
  · cases a <;> cases e
theorem cr_sum (g : Gd G n N sc W X) : CallR X (.builtin "sum") (rP G Wc .sum) := by
  refine CallR.imp (L2.CallR.or (L2.cr_sum g.calm) (cr_sumT g.calm)) fun vs H Q ⟨ts, S, ν, μ, s, dd, h⟩ => ?_
  obtain ⟨t, e, h⟩ := h.opt
  rcases ts with _ | ⟨a, _ | ⟨b, r⟩⟩
  · cases e
  · obtain ⟨v, rfl, d⟩ := dd.un1
    obtain ⟨us, h1, h2⟩ := Option.bind_eq_some_iff.mp (show (seqOf S a).bind _ = some t from e)
    obtain ⟨ns, h3, rfl⟩ := Option.map_eq_some_iff.mp h2
    obtain ⟨p, xs, rfl, q, d⟩ := seq_of s d h1
    obtain rfl := ints_of d h3
    rw [g.iw.K]
    rcases q with q | q
    · exact .inl ⟨p, ns, rfl, q, h.val s dn_int⟩
    · exact .inr ⟨p, ns, rfl, q, h.val s dn_int⟩
  · cases e
theorem cr_max (g : Gd G n N sc W X) : CallR X (.builtin "max") (rP G Wc .max) := by
  refine CallR.imp (cr_maxA g.calm g.hu) fun vs H Q ⟨ts, S, ν, μ, s, dd, h⟩ => ?_
  obtain ⟨t, e, h⟩ := h.opt
  rcases ts with _ | ⟨a, _ | ⟨b, r⟩⟩
  · cases e
  · obtain ⟨v, rfl, d⟩ := dd.un1
    obtain ⟨us, h1, h2⟩ := Option.bind_eq_some_iff.mp (show (seqOf S a).bind _ = some t from e)
    obtain ⟨p, xs, rfl, q, d⟩ := seq_of s d h1
    split at h2
    · rename_i m ms h3
      cases h2
      obtain rfl := ints_of d h3
      exact ⟨p, m :: ms, rfl, by rw [g.iw.K]; exact q, by simp, h.val s dn_int⟩
    · cases h2
  · cases e
theorem cr_min (g : Gd G n N sc W X) : CallR X (.builtin "min") (rP G Wc .min) := by
  refine CallR.imp (cr_minA g.calm g.hu) fun vs H Q ⟨ts, S, ν, μ, s, dd, h⟩ => ?_
  obtain ⟨t, e, h⟩ := h.opt
  rcases ts with _ | ⟨a, _ | ⟨b, r⟩⟩
  · cases e
  · obtain ⟨v, rfl, d⟩ := dd.un1
    obtain ⟨us, h1, h2⟩ := Option.bind_eq_some_iff.mp (show (seqOf S a).bind _ = some t from e)
    obtain ⟨p, xs, rfl, q, d⟩ := seq_of s d h1
    split at h2
    · rename_i m ms h3
      cases h2
      obtain rfl := ints_of d h3
      exact ⟨p, m :: ms, rfl, by rw [g.iw.K]; exact q, by simp, h.val s dn_int⟩
    · cases h2
  · cases e
theorem two_int {ν μ : List Addr} {H : Hp} {i j : Int} {vs : List V} (d : Dns G ν μ H [.int i, .int j] vs) : vs = [.int i, .int j] := by
  obtain ⟨v, w, rfl, d1, d2⟩ := d.un2
  simp only [Dn] at d1 d2
  rw [d1, d2]
theorem cr_max2 (g : Gd G n N sc W X) : CallR X (.builtin "max") (rP G Wc .max2) := by
  refine CallR.imp (call_max2 g.calm) fun vs H Q ⟨ts, S, ν, μ, s, dd, h⟩ => ?_
  obtain ⟨t, e, h⟩ := h.opt
  rcases ts with _ | ⟨a, _ | ⟨b, _ | ⟨c, r⟩⟩⟩
  · cases e
  · cases a <;> cases e
  · cases a with
    | int i =>
      cases b with
      | int j =>
        cases e
        exact ⟨i, j, two_int dd, h.val s dn_int⟩
      | _ => cases e
    | _ => cases b <;> cases e
  · cases a <;> cases b <;> cases e
theorem cr_min2 (g : Gd G n N sc W X) : CallR X (.builtin "min") (rP G Wc .min2) := by
  refine CallR.imp (call_min2 g.calm) fun vs H Q ⟨ts, S, ν, μ, s, dd, h⟩ => ?_
  obtain ⟨t, e, h⟩ := h.opt
  rcases ts with _ | ⟨a, _ | ⟨b, _ | ⟨c, r⟩⟩⟩
  · cases e
  · cases a <;> cases e
  · cases a with
    | int i =>
      cases b with
      | int j =>
        cases e
        exact ⟨i, j, two_int dd, h.val s dn_int⟩
      | _ => cases e
    | _ => cases b <;> cases e
  · cases a <;> cases b <;> cases e
theorem lst_only {ν μ : List Addr} {H : Hp} {S : Sto} {a : Tv} {v : V} {us : List Tv} (s : StR G ν μ S H) (d : Dn G ν μ H a v) (h : lstOf S a = some us) : ∃ p vs, v = .ref p ∧ SqL G.K H p vs ∧ Dns G ν μ H us vs := by
  obtain ⟨p, xs, e, q, d⟩ := lst_of s d h
  exact ⟨p, xs, e, .inl (.inl q), d⟩
theorem cr_all (g : Gd G n N sc W X) : CallR X (.builtin "all") (rP G Wc .all) := by
  refine CallR.imp (L2.cr_all g.calm) fun vs H Q ⟨ts, S, ν, μ, s, dd, h⟩ => ?_
  obtain ⟨t, e, h⟩ := h.opt
  rcases ts with _ | ⟨a, _ | ⟨b, r⟩⟩
  · cases e
  · obtain ⟨v, rfl, d⟩ := dd.un1
    obtain ⟨us, h1, h2⟩ := Option.bind_eq_some_iff.mp (show (lstOf S a).bind _ = some t from e)
    obtain ⟨ns, h3, rfl⟩ := Option.map_eq_some_iff.mp h2
    obtain ⟨p, xs, rfl, q, d⟩ := lst_only s d h1
    obtain rfl := bls_of d h3
    exact ⟨p, ns, rfl, by rw [g.iw.K]; exact q, h.val s dn_bl⟩
  · cases e
theorem cr_any (g : Gd G n N sc W X) : CallR X (.builtin "any") (rP G Wc .any) := by
  refine CallR.imp (L2.cr_any g.calm) fun vs H Q ⟨ts, S, ν, μ, s, dd, h⟩ => ?_
  obtain ⟨t, e, h⟩ := h.opt
  rcases ts with _ | ⟨a, _ | ⟨b, r⟩⟩
  · cases e
  · obtain ⟨v, rfl, d⟩ := dd.un1
    obtain ⟨us, h1, h2⟩ := Option.bind_eq_some_iff.mp (show (lstOf S a).bind _ = some t from e)
    obtain ⟨ns, h3, rfl⟩ := Option.map_eq_some_iff.mp h2
    obtain ⟨p, xs, rfl, q, d⟩ := lst_only s d h1
    obtain rfl := bls_of d h3
    exact ⟨p, ns, rfl, by rw [g.iw.K]; exact q, h.val s dn_bl⟩
  · cases e
theorem cr_str (g : Gd G n N sc W X) : CallR X (.type "str") (rP G Wc .str) := by
  refine CallR.imp call_str_int fun vs H Q ⟨ts, S, ν, μ, s, dd, h⟩ => ?_
  obtain ⟨t, e, h⟩ := h.opt
  rcases ts with _ | ⟨a, _ | ⟨b, r⟩⟩
  · cases e
  · obtain ⟨v, rfl, d⟩ := dd.un1
    cases a with
    | int i =>
      have e' : (if i.natAbs.log2 < 1920 then some (Tv.str (toString i)) else none) = some t := e
      split at e'
      · rename_i hl
        cases e'
        simp only [Dn] at d
        subst d
        exact ⟨i, rfl, hl, h.val s dn_str⟩
      · cases e'
    | _ => cases e
  · cases a <;> cases e
theorem shown_le {x : Tv} (h1 : x.rOk 16 = true) (h2 : x.bulk ≤ 20000) : x.pd.shown.length ≤ sizeLine := by
  obtain ⟨_, a, _, b⟩ := pd_ok x 16 h1
  have := PyData.shown_le_bulk 600 (by decide) x.pd a
  rw [b] at this
  rw [sizeLine_eq]
  have : 602 * x.bulk ≤ 602 * 20000 := Nat.mul_le_mul_left _ h2
  omega
theorem cr_repr (g : Gd G n N sc W X) : CallR X (.builtin "repr") (rP G Wc .repr) := by
  intro pins s σ H vs us Q I rv ⟨ts, S, ν, μ, st, dd, h⟩
  obtain ⟨t, e, h⟩ := h.opt
  rcases ts with _ | ⟨a, _ | ⟨b, r⟩⟩
  · cases e
  · obtain ⟨v, rfl, d⟩ := dd.un1
    obtain ⟨u, rfl, r1⟩ := vals1 rv
    have e' : reprV S a = some t := e
    simp only [reprV] at e'
    split at e'
    · rename_i x hx
      split at e'
      · rename_i hc
        cases e'
        obtain ⟨h1, h2⟩ := hc
        have rd : ∃ as, Reads s.heap u x.pd as ∧ sysModules ∉ as := by
          rcases thaw_dn st d hx with d' | ⟨us, p, xs, rfl, rfl, q, d'⟩
          · exact rd_of g.iw g.sys I x v u 16 h1 d' r1
          · cases r1
            obtain ⟨its, rv, ⟨o, k, ho, hc, _, hd⟩, _⟩ := I.list (show SqL X.K H p xs from .inl (.inl q))
            obtain ⟨as, q', z⟩ := rds_of g.iw g.sys I us xs its 15 (by simpa [Tv.rOk] using h1) d' rv
            refine ⟨p :: as, .list ho hc hd q', fun m => ?_⟩
            rcases List.mem_cons.mp m with m | m
            · exact not_sys g.iw g.sys I q m.symm
            · exact z m
        obtain ⟨as, rd, hn⟩ := rd
        have hz := shown_le h1 h2
        have hs := pd_shown x 16 h1
        obtain ⟨p1, _, p3, _⟩ := pd_ok x 16 h1
        have hu := g.hu
        have fin : ∀ (tk : Nat) (t' : Tok) (h' : Heap), (∀ b o, s.heap.get? b = some o → h'.get? b = some o) → EP X pins σ Q (.str x.pd.shown t') { s with heap := h', toks := tk } := by
          intro tk t' h' hk
          refine ⟨.str x.pd.shown, H, I.kept hk, ⟨t', rfl⟩, h.val st ?_⟩
          rw [hs]
          exact dn_str
        have fin0 : ∀ (tk : Nat) (t' : Tok), EP X pins σ Q (.str x.pd.shown t') { s with toks := tk } := fun tk t' => fin tk t' s.heap fun _ _ z => z
        cases u with
        | ref p => exact repr_of_reads' rd p1 (fun _ => hn) g.iw.gd (by omega) (fun _ _ z => z) (fun h' u tk hk => fin tk u h' hk) hz
        | none =>
          generalize x.pd = y at *
          cases rd
          exact PySem.P.repr_of_none (fin0 _ _)
        | bool b =>
          generalize x.pd = y at *
          cases rd
          exact PySem.P.repr_of_bool (fin0 _ _)
        | int i k =>
          generalize x.pd = y at *
          cases rd
          exact PySem.P.repr_of_int (by simpa [PyData.showable] using p1) (fin0 _ _)
        | str z k =>
          generalize x.pd = y at *
          cases rd
          exact PySem.P.repr_of_str (fin0 _ _) hz
        | _ =>
          generalize x.pd = y at *
          cases rd
      · cases e'
    · cases e'
  · cases e
end
end Mp
namespace Mp
open PySem L2 PySem.Spec
section
variable {G : Wd} {n : Nat} {N : List Str} {sc : Scope} {W : WX} {X : Cx} {Wc : Value → Option Addr → Hp → Prop}
def Bo.py : Bo → Operator
  | .add => .Add
  | .sub => .Sub
  | .mul => .Mult
  | .fdiv => .FloorDiv
  | .mod => .Mod
  | .pow => .Pow
def Co.py : Co → CmpOp
  | .eq => .Eq
  | .ne => .NotEq
  | .lt => .Lt
  | .le => .LtE
  | .gt => .Gt
  | .ge => .GtE
  | .isin => .In
  | .notin => .NotIn
def rB (G : Wd) (Wc : Value → Option Addr → Hp → Prop) (o : Bo) : R2 := fun x y H Q => ∃ t u S ν μ, StR G ν μ S H ∧ Dn G ν μ H t x ∧ Dn G ν μ H u y ∧ Fin G Wc (DV G) ν μ H (opt (binV o S t u) S) Q
theorem OpR.imp {f : Value → Value → Sem Value} {r r' : R2} (h : OpR X f r) (i : ∀ x y H Q, r' x y H Q → r x y H Q) : OpR X f r' :=
  fun pins s σ H x y v u Q I rx ry q => h pins s σ H x y v u Q I rx ry (i x y H Q q)
/-- which of several rules serves is seen at the values -/
theorem OpR.any {f : Value → Value → Sem Value} {r' : R2} (i : ∀ x y H Q, r' x y H Q → ∃ r : R2, OpR X f r ∧ r x y H Q) : OpR X f r' :=
  fun pins s σ H x y v u Q I rx ry q => by
    obtain ⟨r, h, z⟩ := i x y H Q q
    exact h pins s σ H x y v u Q I rx ry z
/-- a * 1 of a tuple is the tuple -/
theorem catL {ν μ : List Addr} {H : Hp} {S : Sto} {t u : Tv} {x y : V} {a b : List Tv} {Q : VK} (s : StR G ν μ S H) (d1 : Dn G ν μ H t x) (d2 : Dn G ν μ H u y) (e1 : lstOf S t = some a) (e2 : lstOf S u = some b) (hl : a.length + b.length ≤ lim)
    (h : Fin G Wc (DV G) ν μ H (.ok (.lst (a ++ b)) S) Q) : rCat x y H Q := by
  obtain ⟨p, vs, rfl, f1, k1⟩ := lst_of s d1 e1
  obtain ⟨q, ws, rfl, f2, k2⟩ := lst_of s d2 e2
  exact ⟨p, q, vs, ws, rfl, rfl, f1, f2, by rw [← k1.length, ← k2.length]; exact lim_le hl, fun l hl => h.newL s hl (k1.append k2)⟩
theorem op_B_add (g : Gd G n N sc W X) : OpR X (binaryOp .Add) (rB G Wc .add) := by
  refine OpR.any fun x y H Q ⟨t, u, S, ν, μ, s, d1, d2, h⟩ => ?_
  obtain ⟨z, e, h⟩ := h.opt
  have e' : addV S t u = some z := e
  cases t with
  | int i =>
    cases u with
    | int j =>
      cases e'
      simp only [Dn] at d1 d2
      subst d1 d2
      exact ⟨_, op_add, i, j, rfl, rfl, h.val s dn_int⟩
    | _ => cases e'
  | str a =>
    cases u with
    | str b =>
      simp only [addV] at e'
      split at e'
      · rename_i hl
        cases e'
        simp only [Dn] at d1 d2
        subst d1 d2
        exact ⟨_, op_add_str, a, b, rfl, rfl, lim_le hl, h.val s dn_str⟩
      · cases e'
    | _ => cases e'
  | tup a =>
    cases u with
    | tup b =>
      simp only [addV] at e'
      split at e'
      · rename_i hl
        cases e'
        simp only [Dn] at d1 d2
        obtain ⟨p, vs, rfl, f1, k1⟩ := d1
        obtain ⟨q, ws, rfl, f2, k2⟩ := d2
        refine ⟨_, op_catA, p, q, vs, ws, rfl, rfl, by rw [g.iw.K]; exact f1.sq, by rw [g.iw.K]; exact f2.sq, by rw [← k1.length, ← k2.length]; exact lim_le hl, fun e => ?_, fun _ e => ?_, fun _ _ l hl => h.newT s hl (k1.append k2)⟩
        · have ea : a = [] := List.eq_nil_of_length_eq_zero (by rw [k1.length, e]; rfl)
          subst ea
          refine h.val s ?_
          simp only [Dn, List.nil_append]
          exact ⟨q, ws, rfl, f2, k2⟩
        · have eb : b = [] := List.eq_nil_of_length_eq_zero (by rw [k2.length, e]; rfl)
          subst eb
          refine h.val s ?_
          simp only [Dn, List.append_nil]
          exact ⟨p, vs, rfl, f1, k1⟩
      · cases e'
    | _ => cases e'
  | lst a =>
    refine ⟨_, op_cat, ?_⟩
    cases u with
    | lst b =>
      simp only [addV] at e'
      split at e'
      · rename_i hl
        cases e'
        exact catL s d1 d2 rfl rfl hl h
      · cases e'
    | cell m =>
      simp only [addV] at e'
      split at e'
      · rename_i b hb
        split at e'
        · rename_i hl
          cases e'
          exact catL s d1 d2 rfl hb hl h
        · cases e'
      · cases e'
    | _ => simp [addV, lstOf] at e'
  | cell m =>
    refine ⟨_, op_cat, ?_⟩
    simp only [addV] at e'
    split at e'
    · rename_i a b ha hb
      split at e'
      · rename_i hl
        cases e'
        exact catL s d1 d2 ha hb hl h
      · cases e'
    · cases e'
  | _ => cases u <;> cases e'
theorem rep1 {α : Type} (xs : List α) : rep 1 xs = xs := by simp [rep]
theorem Dns.rep {ν μ : List Addr} {H : Hp} {ts : List Tv} {vs : List V} (d : Dns G ν μ H ts vs) : ∀ k : Nat, Dns G ν μ H (rep k ts) (List.replicate k vs).flatten
  | 0 => by simp [Mp.rep, Dns]
  | k + 1 => by
    show Dns G ν μ H (List.replicate (k + 1) ts).flatten (List.replicate (k + 1) vs).flatten
    rw [List.replicate_succ, List.flatten_cons, List.replicate_succ, List.flatten_cons]
    exact d.append (Dns.rep d k)
theorem op_B_mul (g : Gd G n N sc W X) (one : OpR X (binaryOp .Mult) (fun x y H Q => ∃ a xs, x = .ref a ∧ y = .int 1 ∧ SqT X.K H a xs ∧ xs ≠ [] ∧ Q (.ref a) H)) : OpR X (binaryOp .Mult) (rB G Wc .mul) := by
  refine OpR.any fun x y H Q ⟨t, u, S, ν, μ, s, d1, d2, h⟩ => ?_
  obtain ⟨z, e, h⟩ := h.opt
  have e' : mulV t u = some z := e
  cases u with
  | int j =>
    simp only [Dn] at d2
    subst d2
    cases t with
    | int i =>
      simp only [mulV] at e'
      split at e'
      · rename_i hl
        cases e'
        simp only [Dn] at d1
        subst d1
        exact ⟨_, op_mulW, i, j, rfl, rfl, hl, h.val s dn_int⟩
      · cases e'
    | tup a =>
      simp only [mulV] at e'
      split at e'
      · rename_i hl
        cases e'
        obtain ⟨l1, l2, l3, l4⟩ := hl
        simp only [Dn] at d1
        obtain ⟨p, vs, rfl, f1, k1⟩ := d1
        have hv : vs ≠ [] := fun e => l4 (List.eq_nil_of_length_eq_zero (by rw [k1.length, e]; rfl))
        by_cases hj : j = 1
        · subst hj
          refine ⟨_, one, p, vs, rfl, rfl, by rw [g.iw.K]; exact f1.sq, hv, h.val s ?_⟩
          simp only [Dn]
          refine ⟨p, vs, rfl, f1, ?_⟩
          rw [show Int.toNat 1 = 1 from rfl, rep1]
          exact k1
        · exact ⟨_, op_repT, p, j, vs, rfl, rfl, by rw [g.iw.K]; exact f1.sq, hv, by omega, by omega, by rw [← k1.length]; exact l3, fun l hl => h.newT s hl (k1.rep _)⟩
      · cases e'
    | lst a =>
      simp only [mulV] at e'
      split at e'
      · rename_i hl
        cases e'
        obtain ⟨l1, l2, l3⟩ := hl
        simp only [Dn] at d1
        obtain ⟨p, vs, rfl, f1, k1⟩ := d1
        refine ⟨_, op_rep, p, j, vs, rfl, rfl, f1.2, by omega, by omega, ?_, fun l hl => h.newL s hl (k1.rep _)⟩
        rw [← k1.length, sizeLine_eq]
        have := Nat.mul_le_mul l3 (show j.toNat ≤ 1000 by omega)
        omega
      · cases e'
    | _ => cases e'
  | _ => cases t <;> cases e'
theorem op_B_sub : OpR X (binaryOp .Sub) (rB G Wc .sub) := by
  refine OpR.imp op_sub fun x y H Q ⟨t, u, S, ν, μ, s, d1, d2, h⟩ => ?_
  obtain ⟨z, e, h⟩ := h.opt
  simp only [binV] at e
  split at e
  · rename_i i j
    cases e
    simp only [Dn] at d1 d2
    exact ⟨i, j, d1, d2, h.val s dn_int⟩
  · cases e
theorem op_B_fdiv : OpR X (binaryOp .FloorDiv) (rB G Wc .fdiv) := by
  refine OpR.imp op_fdivW fun x y H Q ⟨t, u, S, ν, μ, s, d1, d2, h⟩ => ?_
  obtain ⟨z, e, h⟩ := h.opt
  simp only [binV] at e
  split at e
  · rename_i i j
    split at e
    · rename_i hc
      cases e
      simp only [Dn] at d1 d2
      exact ⟨i, j, d1, d2, hc, h.val s dn_int⟩
    · cases e
  · cases e
theorem op_B_mod : OpR X (binaryOp .Mod) (rB G Wc .mod) := by
  refine OpR.imp op_mod fun x y H Q ⟨t, u, S, ν, μ, s, d1, d2, h⟩ => ?_
  obtain ⟨z, e, h⟩ := h.opt
  simp only [binV] at e
  split at e
  · rename_i i j
    split at e
    · rename_i hc
      cases e
      simp only [Dn] at d1 d2
      exact ⟨i, j, d1, d2, hc, h.val s dn_int⟩
    · cases e
  · cases e
theorem op_B_pow : OpR X (binaryOp .Pow) (rB G Wc .pow) := by
  refine OpR.imp op_pow fun x y H Q ⟨t, u, S, ν, μ, s, d1, d2, h⟩ => ?_
  obtain ⟨z, e, h⟩ := h.opt
  simp only [binV] at e
  split at e
  · rename_i i j
    split at e
    · rename_i hc
      cases e
      simp only [Dn] at d1 d2
      exact ⟨i, j, d1, d2, hc, h.val s dn_int⟩
    · cases e
  · cases e
/-! ### comparisons -/
def rC (G : Wd) (Wc : Value → Option Addr → Hp → Prop) (o : Co) : R2 := fun x y H Q => ∃ t u S ν μ, StR G ν μ S H ∧ Dn G ν μ H t x ∧ Dn G ν μ H u y ∧ Fin G Wc DB ν μ H (opt (cmpV o S t u) S) (fun b H' => Q (.bl b) H')
theorem Fin.bool {ν μ : List Addr} {H : Hp} {S : Sto} {b : Bool} {Q : Bool → Hp → Prop} (h : Fin G Wc DB ν μ H (.ok b S) Q) (s : StR G ν μ S H) : Q b H := Fin.ok h s rfl
theorem dp_thaw {ν μ : List Addr} {H : Hp} {S : Sto} {t x : Tv} {v : V} (s : StR G ν μ S H) (d : Dn G ν μ H t v) (e : thaw S t = some x) (h : x.dOk 16 = true) : Dp G.K H v x.pd := by
  rcases thaw_dn s d e with d' | ⟨us, p, xs, rfl, rfl, q, d'⟩
  · exact dp_of x v 16 h d'
  · exact .lst (.inl (.inl q)) (dps_of us xs 15 (by simpa [Tv.dOk] using h) d')
theorem eq_parts {ν μ : List Addr} {H : Hp} {S : Sto} {t u : Tv} {x y : V} {b : Bool} (s : StR G ν μ S H) (d1 : Dn G ν μ H t x) (d2 : Dn G ν μ H u y) (e : eqS0 S t u = some b) :
    ∃ d e, Dp G.K H x d ∧ Dp G.K H y e ∧ SeqAt.shaped d = true ∧ SeqAt.shaped e = true ∧ PyData.eqv d e = b := by
  simp only [eqS0] at e
  split at e
  · rename_i a c ha hc
    split at e
    · rename_i hk
      cases e
      exact ⟨a.pd, c.pd, dp_thaw s d1 ha hk.1, dp_thaw s d2 hc hk.2, shaped_of hk.1, shaped_of hk.2, pd_eqv a c 16 16 hk.1 hk.2⟩
    · cases e
  · cases e
theorem OpR.or {f : Value → Value → Sem Value} {r q : R2} (h : OpR X f r) (k : OpR X f q) : OpR X f (fun x y H Q => r x y H Q ∨ q x y H Q) := by
  intro pins s σ H x y v u Q I rx ry z
  rcases z with z | z
  · exact h pins s σ H x y v u Q I rx ry z
  · exact k pins s σ H x y v u Q I rx ry z
/-- two texts, or others -/
theorem eqS_way {S : Sto} {t u : Tv} {b : Bool} (e : eqS S t u = some b) : (∃ x y, t = .str x ∧ u = .str y ∧ b = (x == y)) ∨ eqS0 S t u = some b := by
  unfold eqS at e
  split at e
  · cases e
    exact .inl ⟨_, _, rfl, rfl, rfl⟩
  · exact .inr e
theorem op_C_eq (g : Gd G n N sc W X) : OpR X (compareOp .Eq) (rC G Wc .eq) := by
  refine OpR.imp (OpR.or op_eq (op_eqD g.hu)) fun x y H Q ⟨t, u, S, ν, μ, s, d1, d2, h⟩ => ?_
  obtain ⟨z, e, h⟩ := h.opt
  rcases eqS_way e with ⟨a, c, rfl, rfl, rfl⟩ | e
  · simp only [Dn] at d1 d2
    subst d1 d2
    refine .inl ⟨rfl, ?_⟩
    rw [dec_str]
    exact h.bool s
  · obtain ⟨d, e', h1, h2, h3, h4, rfl⟩ := eq_parts s d1 d2 e
    rw [← g.iw.K] at h1 h2
    exact .inr ⟨d, e', h1, h2, h3, h4, h.bool s⟩
theorem op_C_ne (g : Gd G n N sc W X) : OpR X (compareOp .NotEq) (rC G Wc .ne) := by
  refine OpR.imp (OpR.or op_ne (op_neD g.hu)) fun x y H Q ⟨t, u, S, ν, μ, s, d1, d2, h⟩ => ?_
  obtain ⟨z, e, h⟩ := h.opt
  obtain ⟨b, e1, rfl⟩ := Option.map_eq_some_iff.mp (show (eqS S t u).map (!·) = some z from e)
  rcases eqS_way e1 with ⟨a, c, rfl, rfl, rfl⟩ | e1
  · simp only [Dn] at d1 d2
    subst d1 d2
    refine .inl ⟨rfl, ?_⟩
    rw [dec_str]
    exact h.bool s
  · obtain ⟨d, e', h1, h2, h3, h4, rfl⟩ := eq_parts s d1 d2 e1
    rw [← g.iw.K] at h1 h2
    exact .inr ⟨d, e', h1, h2, h3, h4, h.bool s⟩
theorem op_C_lt : OpR X (compareOp .Lt) (rC G Wc .lt) := by
  refine OpR.imp op_lt fun x y H Q ⟨t, u, S, ν, μ, s, d1, d2, h⟩ => ?_
  obtain ⟨z, e, h⟩ := h.opt
  simp only [cmpV] at e
  split at e
  · rename_i i j
    cases e
    simp only [Dn] at d1 d2
    exact ⟨i, j, d1, d2, h.bool s⟩
  · cases e
theorem op_C_le : OpR X (compareOp .LtE) (rC G Wc .le) := by
  refine OpR.imp op_le fun x y H Q ⟨t, u, S, ν, μ, s, d1, d2, h⟩ => ?_
  obtain ⟨z, e, h⟩ := h.opt
  simp only [cmpV] at e
  split at e
  · rename_i i j
    cases e
    simp only [Dn] at d1 d2
    exact ⟨i, j, d1, d2, h.bool s⟩
  · cases e
theorem op_C_gt : OpR X (compareOp .Gt) (rC G Wc .gt) := by
  refine OpR.imp op_gt fun x y H Q ⟨t, u, S, ν, μ, s, d1, d2, h⟩ => ?_
  obtain ⟨z, e, h⟩ := h.opt
  simp only [cmpV] at e
  split at e
  · rename_i i j
    cases e
    simp only [Dn] at d1 d2
    exact ⟨i, j, d1, d2, h.bool s⟩
  · cases e
theorem op_C_ge : OpR X (compareOp .GtE) (rC G Wc .ge) := by
  refine OpR.imp op_ge fun x y H Q ⟨t, u, S, ν, μ, s, d1, d2, h⟩ => ?_
  obtain ⟨z, e, h⟩ := h.opt
  simp only [cmpV] at e
  split at e
  · rename_i i j
    cases e
    simp only [Dn] at d1 d2
    exact ⟨i, j, d1, d2, h.bool s⟩
  · cases e
theorem flat_v {ν μ : List Addr} {H : Hp} {t : Tv} {v : V} (d : Dn G ν μ H t v) (h : flatT t = true) : flatV v = true ∧ ∀ u w, Dn G ν μ H u w → flatT u = true → L2.eqV w v = Tv.eqb u t := by
  cases t <;> first | cases h | skip
  all_goals
    simp only [Dn] at d
    subst d
    refine ⟨rfl, fun u w d2 h2 => ?_⟩
    cases u <;> first | cases h2 | skip
    all_goals
      simp only [Dn] at d2
      subst d2
      first | rfl | simp [L2.eqV, Tv.eqb]
theorem flat_all {ν μ : List Addr} {H : Hp} {t : Tv} {v : V} (d : Dn G ν μ H t v) (h : flatT t = true) : ∀ {ts : List Tv} {vs : List V}, Dns G ν μ H ts vs → ts.all flatT = true → vs.all flatV = true ∧ (vs.any fun y => L2.eqV y v) = ts.any fun y => Tv.eqb y t
  | [], vs, k, _ => by
    simp only [Dns] at k
    subst k
    exact ⟨rfl, rfl⟩
  | u :: r, vs, k, z => by
    simp only [Dns] at k
    obtain ⟨w, vr, rfl, k1, k2⟩ := k
    have z' : flatT u = true ∧ r.all flatT = true := by simpa using z
    obtain ⟨a1, a2⟩ := flat_all d h k2 z'.2
    refine ⟨?_, ?_⟩
    · rw [List.all_cons, (flat_v k1 z'.1).1, a1] <;> rfl
    · rw [List.any_cons, List.any_cons, a2, (flat_v d h).2 u w k1 z'.1]
theorem any_eqv {x : Tv} (h : x.dOk 16 = true) : ∀ {ys : List Tv}, Tv.dOks 16 ys = true → ((Tv.pds ys).any fun z => PyData.eqv z x.pd) = ys.any fun y => Tv.eqb y x
  | [], _ => rfl
  | y :: r, k => by
    have k' : y.dOk 16 = true ∧ Tv.dOks 16 r = true := by simpa [Tv.dOks] using k
    simp only [Tv.pds, List.any_cons]
    rw [any_eqv h k'.2, pd_eqv y x 16 16 k'.1 h]
theorem shaped_list {ys : List Tv} (k : Tv.dOks 16 ys = true) : SeqAt.shaped (.list (Tv.pds ys)) = true := by
  obtain ⟨h1, h2⟩ := pds_shape ys 16 k
  unfold SeqAt.shaped
  have e1 : PyData.canLay0 (.list (Tv.pds ys)) = true := by simpa [PyData.canLay0] using h1
  have e2 : PyData.depth (.list (Tv.pds ys)) ≤ 64 := by simp only [PyData.depth]; omega
  rw [e1, decide_eq_true e2] <;> rfl
theorem one_sign {x : Str} (h : x.cps.size = 1) : x = ⟨#[x.cps.getD 0 0]⟩ := by
  obtain ⟨⟨l⟩⟩ := x
  match l, h with
  | [c], _ => rfl
/-- in: the three ways -/
theorem in_parts {ν μ : List Addr} {H : Hp} {S : Sto} {t u : Tv} {x y : V} {b : Bool} (s : StR G ν μ S H) (d1 : Dn G ν μ H t x) (d2 : Dn G ν μ H u y) (e : inS S t u = some b) :
    (∃ (c : Nat) (z : Str), x = .str ⟨#[c]⟩ ∧ y = .str z ∧ decide (c ∈ z.cps.toList) = b) ∨
    (∃ p xs, y = .ref p ∧ (SqL G.K H p xs ∨ SqT G.K H p xs) ∧ flatV x = true ∧ xs.all flatV = true ∧ L2.inV x xs = b) ∨
    (∃ d ds, Dp G.K H x d ∧ Dp G.K H y (.list ds) ∧ SeqAt.shaped d = true ∧ SeqAt.shaped (.list ds) = true ∧ (ds.any fun z => PyData.eqv z d) = b) := by
  have lists : inL (thaw S t) (lstOf S u) = some b → (∃ d ds, Dp G.K H x d ∧ Dp G.K H y (.list ds) ∧ SeqAt.shaped d = true ∧ SeqAt.shaped (.list ds) = true ∧ (ds.any fun z => PyData.eqv z d) = b) := fun e => by
    cases ha : thaw S t with
    | none => rw [ha] at e; cases e
    | some a =>
      cases hy : lstOf S u with
      | none => rw [ha, hy] at e; cases e
      | some ys =>
        rw [ha, hy] at e
        simp only [inL] at e
        split at e
        · rename_i hk
          cases e
          obtain ⟨p, vs, rfl, f2, k2⟩ := lst_of s d2 hy
          exact ⟨a.pd, Tv.pds ys, dp_thaw s d1 ha hk.1, .lst (.inl (.inl f2)) (dps_of ys vs 16 hk.2 k2), shaped_of hk.1, shaped_list hk.2, any_eqv hk.1 hk.2⟩
        · cases e
  cases u with
  | str z =>
    simp only [inS] at e
    split at e
    · rename_i a
      split at e
      · rename_i hs
        cases e
        simp only [Dn] at d1 d2
        subst d1 d2
        exact .inl ⟨_, z, congrArg V.str (one_sign hs), rfl, rfl⟩
      · cases e
    · cases e
  | tup ys =>
    simp only [inS] at e
    split at e
    · rename_i hf
      cases e
      simp only [Dn] at d2
      obtain ⟨p, vs, rfl, f2, k2⟩ := d2
      obtain ⟨a1, a2⟩ := flat_all d1 hf.1 k2 hf.2
      exact .inr (.inl ⟨p, vs, rfl, .inr f2.sq, (flat_v d1 hf.1).1, a1, a2⟩)
    · cases e
  | _ => exact .inr (.inr (lists e))
theorem op_C_in (g : Gd G n N sc W X) (hu : X.A.units + 65 < cLine) : OpR X (compareOp .In) (rC G Wc .isin) := by
  refine OpR.any fun x y H Q ⟨t, u, S, ν, μ, s, d1, d2, h⟩ => ?_
  obtain ⟨z, e, h⟩ := h.opt
  rcases in_parts s d1 d2 e with ⟨c, w, e1, e2, rfl⟩ | ⟨p, xs, e1, e2, e3, e4, rfl⟩ | ⟨d, ds, e1, e2, e3, e4, rfl⟩
  · exact ⟨_, op_in_sign, c, w, e1, e2, h.bool s⟩
  · exact ⟨_, op_in_seq, p, xs, e1, by rw [g.iw.K]; exact e2, e3, e4, h.bool s⟩
  · exact ⟨_, op_inD hu, d, ds, by rw [g.iw.K]; exact e1, by rw [g.iw.K]; exact e2, e3, e4, h.bool s⟩
theorem op_C_notin (g : Gd G n N sc W X) (hu : X.A.units + 65 < cLine) : OpR X (compareOp .NotIn) (rC G Wc .notin) := by
  refine OpR.any fun x y H Q ⟨t, u, S, ν, μ, s, d1, d2, h⟩ => ?_
  obtain ⟨z, e, h⟩ := h.opt
  obtain ⟨b, e', rfl⟩ := Option.map_eq_some_iff.mp (show (inS S t u).map (!·) = some z from e)
  rcases in_parts s d1 d2 e' with ⟨c, w, e1, e2, rfl⟩ | ⟨p, xs, e1, e2, e3, e4, rfl⟩ | ⟨d, ds, e1, e2, e3, e4, rfl⟩
  · exact ⟨_, op_notIn_sign, c, w, e1, e2, h.bool s⟩
  · exact ⟨_, op_notIn_seq, p, xs, e1, by rw [g.iw.K]; exact e2, e3, e4, h.bool s⟩
  · exact ⟨_, op_notInD hu, d, ds, by rw [g.iw.K]; exact e1, by rw [g.iw.K]; exact e2, e3, e4, h.bool s⟩
end
end Mp
namespace Mp
open PySem L2 PySem.Spec
section
variable {G : Wd} {n : Nat} {N : List Str} {sc : Scope} {W : WX} {X : Cx} {a b c e : Expr} {pos : Pos} {f h k : Env → M Tv} {ft ht kt : Env → M Bool}
abbrev Wk (W : WX) (σ : L2.St) : Value → Option Addr → Hp → Prop := fun c d H' => W c d σ H'
theorem s_var {i : Nat} {x : Str} (g : Gd G n N sc W X) (hN : N[i]? = some x) (hv : Vis sc x) (hd : (x == ("__debug__" : Str)) = false) (hc : (x == ("__classdict__" : Str)) = false) :
    PE X (.Name x pos) (tE G W (varM i)) := by
  refine PE.imp (pe_var (i := i) (by rw [g.nms]; exact hN) (by rw [g.sc]; exact hv) hd hc) fun σ H Q ⟨env, S, ν, μ, r, z⟩ => ?_
  unfold varM at z
  split at z
  · rename_i t ht
    obtain ⟨v, e1, d⟩ := r.en.at' i t ht
    exact ⟨v, e1, z.val r.st d⟩
  · exact z.elim
theorem s_c {t : Tv} {v : V} (hp : PE X e (tC v)) (d : ∀ ν μ H, Dn G ν μ H t v) : PE X e (tE G W fun _ => ret t) :=
  PE.imp hp fun σ H Q ⟨env, S, ν, μ, r, z⟩ => z.val r.st (d ν μ H)
theorem s_op2 {o : Operator} {r : R2} {g : Tv → Tv → M Tv} (ho : OpR X (binaryOp o) r) (ha : PE X a (tE G W f)) (hb : PE X b (tE G W h))
    (q : ∀ (σ : L2.St) (S : Sto) (ν μ : List Addr) (v w : V) (H' : Hp) (t u : Tv) (Q : VK), StR G ν μ S H' → Dn G ν μ H' t v → Dn G ν μ H' u w → Fin G (Wk W σ) (DV G) ν μ H' (g t u S) Q → r v w H' Q) :
    PE X (.BinOp a o b pos) (tE G W fun env => bnd (f env) fun x => bnd (h env) fun y => g x y) :=
  PE.imp (pe_op ho ha hb) fun σ H Q z => z.two fun S ν μ v w H' t u s d1 d2 y => q σ S ν μ v w H' t u Q s d1 d2 y
theorem s_bin {o : Bo} (g : Gd G n N sc W X) (one : OpR X (binaryOp .Mult) (fun x y H Q => ∃ a xs, x = .ref a ∧ y = .int 1 ∧ SqT X.K H a xs ∧ xs ≠ [] ∧ Q (.ref a) H)) (ha : PE X a (tE G W f)) (hb : PE X b (tE G W h)) :
    PE X (.BinOp a o.py b pos) (tE G W fun env => bnd (f env) fun x => bnd (h env) fun y S => opt (binV o S x y) S) := by
  have go : ∀ σ : L2.St, OpR X (binaryOp o.py) (rB G (Wk W σ) o) := fun σ => by
    cases o with
    | add => exact op_B_add g
    | sub => exact op_B_sub
    | mul => exact op_B_mul g one
    | fdiv => exact op_B_fdiv
    | mod => exact op_B_mod
    | pow => exact op_B_pow
  refine s_op2 (r := fun x y H Q => ∃ σ, rB G (Wk W σ) o x y H Q) (fun pins s σ H x y v u Q I rx ry ⟨σ', q⟩ => go σ' pins s σ H x y v u Q I rx ry q) ha hb ?_
  exact fun σ S ν μ v w H' t u Q s d1 d2 y => ⟨σ, t, u, S, ν, μ, s, d1, d2, y⟩
theorem s_neg (ha : PE X a (tE G W f)) : PE X (.UnaryOp .USub a pos) (tE G W fun env => bnd (f env) fun x => match x with
    | .int i => ret (.int (-i))
    | _ => bad) :=
  PE.imp (pe_un un_neg ha) fun σ H Q z => z.one fun S ν μ v H' t s d y => by
    cases t <;> first | exact y.elim | skip
    simp only [Dn] at d
    subst d
    exact ⟨_, rfl, y.val s dn_int⟩
/-! ### comparisons -/
theorem go_cmp (g : Gd G n N sc W X) (o : Co) (σ : L2.St) : OpR X (compareOp o.py) (rC G (Wk W σ) o) := by
  have hu : X.A.units + 65 < cLine := by have := g.room.un; omega
  cases o with
  | eq => exact op_C_eq g
  | ne => exact op_C_ne g
  | lt => exact op_C_lt
  | le => exact op_C_le
  | gt => exact op_C_gt
  | ge => exact op_C_ge
  | isin => exact op_C_in g hu
  | notin => exact op_C_notin g hu
/-- the comparison's rule, whatever is wanted of errors -/
def rCs (G : Wd) (o : Co) : R2 := fun x y H Q => ∃ Wc, rC G Wc o x y H Q
theorem go_cmps (g : Gd G n N sc W X) (o : Co) : OpR X (compareOp o.py) (rCs G o) := fun pins s σ H x y v u Q I rx ry ⟨Wc, q⟩ => by
  obtain ⟨t, u', S, ν, μ, st, d1, d2, z⟩ := q
  obtain ⟨b, e, z⟩ := z.opt
  refine go_cmp g o σ pins s σ H x y v u Q I rx ry ⟨t, u', S, ν, μ, st, d1, d2, ?_⟩
  rw [e]
  exact z
def notSet : Expr → Bool
  | .Set _ _ _ => false
  | _ => true
theorem noSet {op : CmpOp} (h : notSet b = true) : behindInMarks op b = false := by
  cases b <;> first | rfl | cases h
theorem lastNo {op op' : CmpOp} (h : notSet c = true) : lastMarks [op, op'] [b, c] = false := noSet h
abbrev cmpM (o : Co) (f h : Env → M Tv) : Env → M Bool := fun env => bnd (f env) fun x => bnd (h env) fun y S => opt (cmpV o S x y) S
theorem bnd_assoc {α β γ : Type} (m : M α) (f : α → M β) (g : β → M γ) : bnd (bnd m f) g = bnd m fun x => bnd (f x) g := by
  funext S
  simp only [bnd]
  cases m S <;> rfl
theorem fin_b {ν μ : List Addr} {H : Hp} {σ : L2.St} {r : Rs Bool} {Q : VK} (z : Fin G (Wk W σ) (DV G) ν μ H (r.bnd fun b => ret (.bl b)) Q) : Fin G (Wk W σ) DB ν μ H r fun b H' => Q (.bl b) H' := by
  cases r with
  | ok b S' =>
    intro v H' ν' μ' a e
    have e' : b = v := e
    subst e'
    exact z (.bl b) H' ν' μ' a dn_bl
  | ex c fs S' => exact z
  | bad => exact z
theorem tE.two' {σ : L2.St} {H : Hp} {Q : VK} {g : Tv → Tv → M Bool} {P : V → VK} (z : tE G W (boolV fun env => bnd (f env) fun x => bnd (h env) fun y => g x y) σ H Q)
    (q : ∀ (S : Sto) (ν μ : List Addr) (v w : V) (H' : Hp) (t u : Tv), StR G ν μ S H' → Dn G ν μ H' t v → Dn G ν μ H' u w → Fin G (Wk W σ) DB ν μ H' (g t u S) (fun b H2 => Q (.bl b) H2) → P v w H') :
    tE G W f σ H fun v H1 => tE G W h σ H1 fun w H2 => P v w H2 := by
  have e : (boolV fun env => bnd (f env) fun x => bnd (h env) fun y => g x y) = fun env => bnd (f env) fun x => bnd (h env) fun y => bnd (g x y) fun b => ret (.bl b) := by
    funext env
    simp only [boolV, bnd_assoc]
  rw [e] at z
  exact z.two fun S ν μ v w H' t u s d1 d2 y => q S ν μ v w H' t u s d1 d2 (fin_b y)
theorem tT.two {σ : L2.St} {H : Hp} {Q : Bool → Hp → Prop} {g : Tv → Tv → M Bool} {P : V → VK} (z : tT G W (fun env => bnd (f env) fun x => bnd (h env) fun y => g x y) σ H Q)
    (q : ∀ (S : Sto) (ν μ : List Addr) (v w : V) (H' : Hp) (t u : Tv), StR G ν μ S H' → Dn G ν μ H' t v → Dn G ν μ H' u w → Fin G (Wk W σ) DB ν μ H' (g t u S) Q → P v w H') :
    tE G W f σ H fun v H1 => tE G W h σ H1 fun w H2 => P v w H2 := by
  obtain ⟨env, S, ν, μ, r, z⟩ := z
  refine ⟨env, S, ν, μ, r, (Fin.bnd (D := DV G) z).mono fun v H1 ⟨t, S1, ν1, μ1, a, d, z⟩ => ?_⟩
  exact ⟨env, S1, ν1, μ1, r.af a, (Fin.bnd (D := DV G) z).mono fun w H2 ⟨u, S2, ν2, μ2, a2, d2, z2⟩ => q S2 ν2 μ2 v w H2 t u a2.st (d.af a2) d2 z2⟩
theorem s_cmp {o : Co} (g : Gd G n N sc W X) (ha : PE X a (tE G W f)) (hb : PE X b (tE G W h)) (hs : notSet b = true) :
    PE X (.Compare a [o.py] [b] pos) (tE G W (boolV (cmpM o f h))) ∧ PT X (.Compare a [o.py] [b] pos) (tT G W (cmpM o f h)) := by
  constructor
  · refine PE.imp (pe_cmpR (go_cmps g o) ha hb (noSet hs)) fun σ H Q z => ?_
    exact z.two' fun S ν μ v w H' t u s d1 d2 y => ⟨_, t, u, S, ν, μ, s, d1, d2, y⟩
  · refine PT.imp (pt_cmpR (go_cmps g o) ha hb (noSet hs)) fun σ H Q z => ?_
    exact z.two fun S ν μ v w H' t u s d1 d2 y => ⟨Wk W σ, t, u, S, ν, μ, s, d1, d2, y.mono fun b H2 q => ⟨b, rfl, q⟩⟩
abbrev chainM (o p : Co) (f h k : Env → M Tv) : Env → M Bool := fun env => bnd (f env) fun x => bnd (h env) fun y => bnd (fun S => opt (cmpV o S x y) S) fun b =>
  if b then bnd (k env) fun z S => opt (cmpV p S y z) S else ret false
theorem s_chainT {o p : Co} (g : Gd G n N sc W X) (ha : PE X a (tE G W f)) (hb : PE X b (tE G W h)) (hc : PE X c (tE G W k)) (hs : notSet c = true) (σ : L2.St) (H : Hp) (Q : Bool → Hp → Prop)
    (z : tT G W (chainM o p f h k) σ H Q) : tChain (rCs G o) (rCs G p) (tE G W f) (tE G W h) (tE G W k) σ H fun x H' => ∃ b, x = .bl b ∧ Q b H' := by
  obtain ⟨env, S, ν, μ, r, z⟩ := z
  refine ⟨env, S, ν, μ, r, (Fin.bnd (D := DV G) z).mono fun v H1 ⟨t, S1, ν1, μ1, a1, d1, z⟩ => ?_⟩
  refine ⟨env, S1, ν1, μ1, r.af a1, (Fin.bnd (D := DV G) z).mono fun w H2 ⟨u, S2, ν2, μ2, a2, d2, z⟩ => ?_⟩
  refine ⟨Wk W σ, t, u, S2, ν2, μ2, a2.st, d1.af a2, d2, (Fin.bnd (D := DB) z).mono fun b H3 ⟨b', S3, ν3, μ3, a3, e, z⟩ => ?_⟩
  subst e
  refine ⟨b', rfl, ?_⟩
  cases b' with
  | false =>
    exact iteF ⟨false, rfl, Fin.bool z a3.st⟩
  | true =>
    refine iteT ⟨env, S3, ν3, μ3, ((r.af a1).af a2).af a3, (Fin.bnd (D := DV G) z).mono fun w' H4 ⟨u', S4, ν4, μ4, a4, d4, z⟩ => ?_⟩
    exact ⟨Wk W σ, u, u', S4, ν4, μ4, a4.st, (d2.af a3).af a4, d4, z.mono fun b H2 q => ⟨b, rfl, q⟩⟩
theorem tChain.mono {r r' : R2} {ta tb tc : TE} {σ : L2.St} {H : Hp} {Q Q' : VK} (ma : ∀ σ H Q Q', (∀ v H, Q v H → Q' v H) → ta σ H Q → ta σ H Q') (mb : ∀ σ H Q Q', (∀ v H, Q v H → Q' v H) → tb σ H Q → tb σ H Q')
    (mc : ∀ σ H Q Q', (∀ v H, Q v H → Q' v H) → tc σ H Q → tc σ H Q') (mr : ∀ x y H Q Q', (∀ v H, Q v H → Q' v H) → r x y H Q → r x y H Q') (mr' : ∀ x y H Q Q', (∀ v H, Q v H → Q' v H) → r' x y H Q → r' x y H Q')
    (h : ∀ v H, Q v H → Q' v H) (z : tChain r r' ta tb tc σ H Q) : tChain r r' ta tb tc σ H Q' :=
  ma _ _ _ _ (fun v H1 z => mb _ _ _ _ (fun w H2 z => mr _ _ _ _ _ (fun x H3 ⟨b, e, z⟩ => ⟨b, e, by
    cases b with
    | false => exact iteF (h _ _ (by simpa using z))
    | true => exact iteT (mc _ _ _ _ (fun u H4 z => mr' _ _ _ _ _ h z) (by simpa using z))⟩) z) z) z
theorem rCs.mono {o : Co} {x y : V} {H : Hp} {Q Q' : VK} (h : ∀ v H, Q v H → Q' v H) : rCs G o x y H Q → rCs G o x y H Q' := fun ⟨Wc, t, u, S, ν, μ, s, d1, d2, z⟩ => ⟨Wc, t, u, S, ν, μ, s, d1, d2, z.mono fun b H2 q => h _ _ q⟩
theorem s_chain {o p : Co} (g : Gd G n N sc W X) (ha : PE X a (tE G W f)) (hb : PE X b (tE G W h)) (hc : PE X c (tE G W k)) (hs : notSet c = true) :
    PE X (.Compare a [o.py, p.py] [b, c] pos) (tE G W (boolV (chainM o p f h k))) ∧ PT X (.Compare a [o.py, p.py] [b, c] pos) (tT G W (chainM o p f h k)) := by
  constructor
  · refine PE.imp (pe_chain (go_cmps g o) (go_cmps g p) ha hb hc (lastNo hs)) fun σ H Q ⟨env, S, ν, μ, r, z⟩ => ?_
    have z' : tT G W (chainM o p f h k) σ H fun b H' => Q (.bl b) H' := ⟨env, S, ν, μ, r, fin_b z⟩
    refine tChain.mono (fun _ _ _ _ h z => z.mono h) (fun _ _ _ _ h z => z.mono h) (fun _ _ _ _ h z => z.mono h) (fun _ _ _ _ _ h => rCs.mono h) (fun _ _ _ _ _ h => rCs.mono h) ?_ (s_chainT g ha hb hc hs σ H _ z')
    rintro v H ⟨b, rfl, q⟩
    exact q
  · refine PT.imp (pt_chain (go_cmps g o) (go_cmps g p) ha hb hc (lastNo hs)) fun σ H Q z => ?_
    exact s_chainT g ha hb hc hs σ H Q z
end
end Mp
namespace Mp
open PySem L2 PySem.Spec
section
variable {G : Wd} {n : Nat} {N : List Str} {sc : Scope} {W : WX} {X : Cx} {a b c e : Expr} {es : List Expr} {pos : Pos} {f h k : Env → M Tv} {ft ht kt : Env → M Bool} {fs hs : Env → M (List Tv)}
/-! ### truth -/
theorem tru_of {ν μ : List Addr} {H : Hp} {S : Sto} {t : Tv} {v : V} {b : Bool} (s : StR G ν μ S H) (d : Dn G ν μ H t v) (e : truth S t = some b) : TruV G.K v H b := by
  have gen : ∀ ts, lstOf S t = some ts → TruV G.K v H (!ts.isEmpty) := fun ts h => by
    obtain ⟨p, vs, rfl, f, k⟩ := lst_of s d h
    refine .inl ⟨vs, .inl (.inl f), ?_⟩
    cases ts <;> cases vs <;> first | rfl | (have := k.length; simp at this)
  cases t with
  | non =>
    cases e
    simp only [Dn] at d
    subst d
    exact rfl
  | bl k =>
    cases e
    simp only [Dn] at d
    subst d
    exact rfl
  | int k =>
    cases e
    simp only [Dn] at d
    subst d
    exact rfl
  | tup ts =>
    cases e
    simp only [Dn] at d
    obtain ⟨p, vs, rfl, f, k⟩ := d
    refine .inr (.inl ⟨vs, f.sq, ?_⟩)
    cases ts <;> cases vs <;> first | rfl | (have := k.length; simp at this)
  | lst ts =>
    cases e
    exact gen ts rfl
  | cell m =>
    obtain ⟨ts, h1, rfl⟩ := Option.map_eq_some_iff.mp (show (lstOf S (.cell m)).map _ = some b from e)
    exact gen ts h1
  | _ => simp [truth, lstOf] at e
def plainT : Expr → Bool
  | .UnaryOp .Not _ _ => false
  | .BoolOp _ _ _ => false
  | .IfExp _ _ _ _ => false
  | .Compare _ _ _ _ => false
  | _ => true
theorem plain_is {env : PySem.Env} (h : plainT e = true) (whole : Sem Value) : isTrue e env whole = (do let v ← whole; standAt e.pos; holding [v] (truthy v)) := by
  cases e with
  | UnaryOp op x p => cases op <;> first | rfl | cases h
  | _ => first | rfl | cases h
theorem s_truth (g : Gd G n N sc W X) (hp : plainT e = true) (ha : PE X e (tE G W f)) : PT X e (tT G W fun env => bnd (f env) truthM) := by
  refine PT.imp (pt_truth ha (plain_is hp)) fun σ H Q ⟨env, S, ν, μ, r, z⟩ => ?_
  refine ⟨env, S, ν, μ, r, (Fin.bnd (D := DV G) z).mono fun v H1 ⟨t, S1, ν1, μ1, a1, d1, z⟩ => ?_⟩
  obtain ⟨b, eb, z⟩ := z.opt
  exact ⟨b, by rw [g.iw.K]; exact tru_of a1.st d1 eb, z.bool a1.st⟩
/-! ### x is None, True, False -/
def conOf : Option Bool → Const
  | none => .none
  | some b => .bool b
theorem is_none {ν μ : List Addr} {H : Hp} {t : Tv} {v : V} {b : Bool} (d : Dn G ν μ H t v) (e : isCV none t = some b) : decide (v = .non) = b := by
  cases t <;> simp only [isCV, Option.some.injEq] at e <;> subst e <;> simp only [Dn] at d
  · subst d; rfl
  · subst d; rfl
  · subst d; rfl
  · subst d; rfl
  · obtain ⟨_, _, rfl, _⟩ := d; rfl
  · obtain ⟨_, _, rfl, _⟩ := d; rfl
  · obtain ⟨_, rfl, _⟩ := d; rfl
  · obtain ⟨_, _, rfl, _⟩ := d; rfl
  · obtain ⟨_, _, _, _, rfl, _⟩ := d; rfl
  · obtain ⟨_, rfl, _⟩ := d; rfl
abbrev isM (ng : Bool) (cc : Option Bool) (f : Env → M Tv) : Env → M Bool := fun env => bnd (f env) fun x S => opt ((isCV cc x).map fun k => if ng then !k else k) S
/-- a comparison whose answer is a bool, as a value and as a test -/
theorem s_isG {op : CmpOp} {j : Nat} {p2 : Pos} {cc : Option Bool} {ng : Bool} {r : R2} {kv : V} (ho : OpR X (compareOp op) r) (ha : PE X a (tE G W f)) (hk : PE X (.Constant (conOf cc) j p2) (tC kv))
    (q : ∀ (ν μ : List Addr) (H : Hp) (t : Tv) (v : V) (k : Bool) (Q : VK), Dn G ν μ H t v → isCV cc t = some k → Q (.bl (if ng then !k else k)) H → r v kv H Q) :
    PE X (.Compare a [op] [.Constant (conOf cc) j p2] pos) (tE G W (boolV (isM ng cc f))) ∧ PT X (.Compare a [op] [.Constant (conOf cc) j p2] pos) (tT G W (isM ng cc f)) := by
  have key : ∀ (σ : L2.St) (H : Hp) (Q : Bool → Hp → Prop), tT G W (isM ng cc f) σ H Q → tOp r (tE G W f) (tC kv) σ H fun x H' => ∃ b, x = .bl b ∧ Q b H' := by
    intro σ H Q ⟨env, S, ν, μ, rl, z⟩
    refine ⟨env, S, ν, μ, rl, (Fin.bnd (D := DV G) z).mono fun v H1 ⟨t, S1, ν1, μ1, a1, d1, z⟩ => ?_⟩
    obtain ⟨k', ek, z⟩ := z.opt
    obtain ⟨k, e1, rfl⟩ := Option.map_eq_some_iff.mp ek
    exact q ν1 μ1 H1 t v k _ d1 e1 ⟨_, rfl, z.bool a1.st⟩
  have nb : behindInMarks op (.Constant (conOf cc) j p2) = false := rfl
  constructor
  · refine PE.imp (PE.imp (pe_cmpR ho ha hk nb) fun σ H Q z => z) fun σ H Q ⟨env, S, ν, μ, r, z⟩ => ?_
    have z' : tT G W (isM ng cc f) σ H fun b H' => Q (.bl b) H' := ⟨env, S, ν, μ, r, fin_b z⟩
    obtain ⟨env, S, ν, μ, rl, z⟩ := z'
    refine ⟨env, S, ν, μ, rl, (Fin.bnd (D := DV G) z).mono fun v H1 ⟨t, S1, ν1, μ1, a1, d1, z⟩ => ?_⟩
    obtain ⟨k', ek, z⟩ := z.opt
    obtain ⟨k, e1, rfl⟩ := Option.map_eq_some_iff.mp ek
    exact q ν1 μ1 H1 t v k _ d1 e1 (z.bool a1.st)
  · exact PT.imp (pt_cmpR ho ha hk nb) fun σ H Q z => key σ H Q z
theorem s_isC {ng : Bool} {cc : Option Bool} {j : Nat} {p2 : Pos} (ha : PE X a (tE G W f)) :
    PE X (.Compare a [if ng then .IsNot else .Is] [.Constant (conOf cc) j p2] pos) (tE G W (boolV (isM ng cc f))) ∧ PT X (.Compare a [if ng then .IsNot else .Is] [.Constant (conOf cc) j p2] pos) (tT G W (isM ng cc f)) := by
  cases cc with
  | none =>
    cases ng with
    | true => exact s_isG (cc := none) (ng := true) (op := .IsNot) op_notN ha pe_non fun ν μ H t v k Q d e q => ⟨rfl, by rw [is_none d e]; exact q⟩
    | false => exact s_isG (cc := none) (ng := false) (op := .Is) op_isN ha pe_non fun ν μ H t v k Q d e q => ⟨rfl, by rw [is_none d e]; exact q⟩
  | some b =>
    have bl : ∀ {ν μ : List Addr} {H : Hp} {t : Tv} {v : V} {k : Bool}, Dn G ν μ H t v → isCV (some b) t = some k → ∃ z, v = .bl z ∧ decide (z = b) = k := fun {ν μ H t v k} d e => by
      cases t <;> simp only [isCV, Option.some.injEq] at e <;> first | cases e | skip
      simp only [Dn] at d
      exact ⟨_, d, rfl⟩
    cases ng with
    | true =>
      refine s_isG (cc := some b) (ng := true) (op := .IsNot) op_notBl ha pe_bl ?_
      intro ν μ H t v k Q d e q
      obtain ⟨z, rfl, rfl⟩ := bl d e
      exact ⟨z, b, rfl, rfl, q⟩
    | false =>
      refine s_isG (cc := some b) (ng := false) (op := .Is) op_isBl ha pe_bl ?_
      intro ν μ H t v k Q d e q
      obtain ⟨z, rfl, rfl⟩ := bl d e
      exact ⟨z, b, rfl, rfl, q⟩
/-! ### and, or, not, if else -/
theorem s_bop {an : Bool} {rest : List Expr} (g : Gd G n N sc W X) (ha : PE X a (tE G W f)) (hb : PE X (.BoolOp (if an then .And else .Or) (b :: rest) pos) (tE G W h)) :
    PE X (.BoolOp (if an then .And else .Or) (a :: b :: rest) pos) (tE G W fun env => bnd (f env) fun x => bnd (truthM x) fun k => if k = an then h env else ret x) := by
  have key : ∀ (σ : L2.St) (H : Hp) (Q : VK), tE G W (fun env => bnd (f env) fun x => bnd (truthM x) fun k => if k = an then h env else ret x) σ H Q →
      tE G W f σ H fun x H1 => ∃ k, TruV X.K x H1 k ∧ if k = an then tE G W h σ H1 Q else Q x H1 := by
    intro σ H Q ⟨env, S, ν, μ, r, z⟩
    refine ⟨env, S, ν, μ, r, (Fin.bnd (D := DV G) z).mono fun v H1 ⟨t, S1, ν1, μ1, a1, d1, z⟩ => ?_⟩
    cases eb : truth S1 t with
    | none =>
      simp only [bnd, truthM, eb, opt, Rs.bnd] at z
      exact z.elim
    | some b =>
      simp only [bnd, truthM, eb, opt, Rs.bnd] at z
      refine ⟨b, by rw [g.iw.K]; exact tru_of a1.st d1 eb, ?_⟩
      split
      · rename_i hk
        rw [if_pos hk] at z
        exact ⟨env, S1, ν1, μ1, r.af a1, z⟩
      · rename_i hk
        rw [if_neg hk] at z
        exact z.val a1.st d1
  cases an with
  | true => exact PE.imp (pe_andT ha hb) key
  | false =>
    refine PE.imp (pe_orT ha hb) fun σ H Q z => (key σ H Q z).mono fun v H' ⟨k, h1, h2⟩ => ⟨k, h1, ?_⟩
    cases k with
    | true => exact iteT (by simpa using h2)
    | false => exact iteF (by simpa using h2)
theorem s_bop1 {op : BoolOp} (ha : PE X a (tE G W f)) : PE X (.BoolOp op [a] pos) (tE G W f) := pe_one ha
theorem s_bopT {an : Bool} {rest : List Expr} (ha : PT X a (tT G W ft)) (hb : PW X (.BoolOp (if an then .And else .Or) (b :: rest) pos) (tT G W ht)) :
    PW X (.BoolOp (if an then .And else .Or) (a :: b :: rest) pos) (tT G W fun env => bnd (ft env) fun k => if k = an then ht env else ret k) := by
  have key : ∀ (σ : L2.St) (H : Hp) (Q : Bool → Hp → Prop), tT G W (fun env => bnd (ft env) fun k => if k = an then ht env else ret k) σ H Q → tT G W ft σ H fun k H1 => if k = an then tT G W ht σ H1 Q else Q k H1 := by
    intro σ H Q ⟨env, S, ν, μ, r, z⟩
    refine ⟨env, S, ν, μ, r, (Fin.bnd (D := DB) z).mono fun v H1 ⟨t, S1, ν1, μ1, a1, d1, z⟩ => ?_⟩
    subst d1
    split
    · rename_i hk
      rw [if_pos hk] at z
      exact ⟨env, S1, ν1, μ1, r.af a1, z⟩
    · rename_i hk
      rw [if_neg hk] at z
      exact Fin.bool z a1.st
  have mono : ∀ (σ : L2.St) (H : Hp) (Q Q' : Bool → Hp → Prop), (∀ b H', Q b H' → Q' b H') → tT G W ft σ H Q → tT G W ft σ H Q' := fun σ H Q Q' q ⟨env, S, ν, μ, r, z⟩ => ⟨env, S, ν, μ, r, z.mono q⟩
  cases an with
  | true =>
    have q := pw_and ha hb
    refine ⟨fun wh pins s σ H Q I z => q.run wh pins s σ H Q I (mono _ _ _ _ (fun b H' z => ?_) (key σ H Q z))⟩
    cases b with
    | true => exact iteT (by simpa using z)
    | false => exact iteF (by simpa using z)
  | false =>
    have q := pw_or ha hb
    refine ⟨fun wh pins s σ H Q I z => q.run wh pins s σ H Q I (mono _ _ _ _ (fun b H' z => ?_) (key σ H Q z))⟩
    cases b with
    | true => exact iteT (by simpa using z)
    | false => exact iteF (by simpa using z)
theorem bnd_ret (an : Bool) (m : M Bool) : (bnd m fun k => if k = an then ret an else ret k) = m := by
  funext S
  simp only [bnd]
  cases m S with
  | ok k S' =>
    simp only [Rs.bnd]
    split
    · rename_i hk; subst hk; rfl
    · rfl
  | _ => rfl
theorem s_bopT1 {an : Bool} (ha : PT X a (tT G W ft)) : PW X (.BoolOp (if an then .And else .Or) [a] pos) (tT G W fun env => bnd (ft env) fun k => if k = an then ret an else ret k) := by
  have e : (fun env => bnd (ft env) fun k => if k = an then ret an else ret k) = ft := by funext env; exact bnd_ret an (ft env)
  rw [e]
  cases an with
  | true => exact pw_and1 ha
  | false => exact pw_or1 ha
theorem s_nt (g : Gd G n N sc W X) (ha : PE X a (tE G W f)) (hb : PT X a (tT G W ft)) :
    PE X (.UnaryOp .Not a pos) (tE G W fun env => bnd (f env) fun x => bnd (truthM x) fun b => ret (.bl (!b))) ∧ PT X (.UnaryOp .Not a pos) (tT G W fun env => bnd (ft env) fun b => ret (!b)) := by
  constructor
  · refine PE.imp (pe_notT ha) fun σ H Q ⟨env, S, ν, μ, r, z⟩ => ?_
    refine ⟨env, S, ν, μ, r, (Fin.bnd (D := DV G) z).mono fun v H1 ⟨t, S1, ν1, μ1, a1, d1, z⟩ => ?_⟩
    cases eb : truth S1 t with
    | none =>
      simp only [bnd, truthM, eb, opt, Rs.bnd] at z
      exact z.elim
    | some b =>
      simp only [bnd, truthM, eb, opt, Rs.bnd] at z
      exact ⟨b, by rw [g.iw.K]; exact tru_of a1.st d1 eb, z.val a1.st dn_bl⟩
  · refine PT.imp (pt_not hb) fun σ H Q ⟨env, S, ν, μ, r, z⟩ => ?_
    refine ⟨env, S, ν, μ, r, (Fin.bnd (D := DB) z).mono fun v H1 ⟨t, S1, ν1, μ1, a1, d1, z⟩ => ?_⟩
    subst d1
    exact Fin.bool z a1.st
theorem pt_ifExp {t : TT} {ta tb : TT} (hc : PT X c t) (ha : PT X a ta) (hb : PT X b tb) : PT X (.IfExp c a b pos) (fun σ H Q => t σ H fun k H1 => if k = true then ta σ H1 Q else tb σ H1 Q) := by
  refine ⟨fun pins s σ H Q I z => ?_⟩
  show wpAny _ _ (isTrue c X.env (eval c X.env) >>= fun k => if k = true then isTrue a X.env (eval a X.env) else isTrue b X.env (eval b X.env)) _ _ s
  refine wpAny_bind (thn (hc.run pins s σ H _ I z) fun k s1 ⟨H1, I1, q1⟩ => ?_)
  cases k with
  | true => exact ha.run pins s1 σ H1 Q I1 q1
  | false => exact hb.run pins s1 σ H1 Q I1 q1
theorem s_ite (hc : PT X c (tT G W ft)) (ha : PE X a (tE G W f)) (hb : PE X b (tE G W h)) : PE X (.IfExp c a b pos) (tE G W fun env => bnd (ft env) fun k => if k then f env else h env) := by
  refine PE.imp (pe_ifExp hc ha hb) fun σ H Q ⟨env, S, ν, μ, r, z⟩ => ?_
  refine ⟨env, S, ν, μ, r, (Fin.bnd (D := DB) z).mono fun v H1 ⟨t, S1, ν1, μ1, a1, d1, z⟩ => ?_⟩
  subst d1
  cases t with
  | true => exact iteT ⟨env, S1, ν1, μ1, r.af a1, z⟩
  | false => exact iteF ⟨env, S1, ν1, μ1, r.af a1, z⟩
theorem s_iteT (hc : PT X c (tT G W ft)) (ha : PT X a (tT G W ht)) (hb : PT X b (tT G W kt)) : PT X (.IfExp c a b pos) (tT G W fun env => bnd (ft env) fun k => if k then ht env else kt env) := by
  refine PT.imp (pt_ifExp hc ha hb) fun σ H Q ⟨env, S, ν, μ, r, z⟩ => ?_
  refine ⟨env, S, ν, μ, r, (Fin.bnd (D := DB) z).mono fun v H1 ⟨t, S1, ν1, μ1, a1, d1, z⟩ => ?_⟩
  subst d1
  cases t with
  | true => exact iteT ⟨env, S1, ν1, μ1, r.af a1, z⟩
  | false => exact iteF ⟨env, S1, ν1, μ1, r.af a1, z⟩
/-! ### argument lists, displays -/
theorem s_nil : PA X [] (tA G W fun _ => ret []) := PA.imp pa_nil fun σ H Q ⟨env, S, ν, μ, r, z⟩ => Fin.ok z r.st (by simp only [DVs, Dns])
theorem s_cons (ns : notStar e = true) (ha : PE X e (tE G W f)) (hr : PA X es (tA G W fs)) : PA X (e :: es) (tA G W fun env => bnd (f env) fun x => bnd (fs env) fun xs => ret (x :: xs)) := by
  refine PA.imp (pa_cons ha hr (star_cons ns es)) fun σ H Q ⟨env, S, ν, μ, r, z⟩ => ?_
  refine ⟨env, S, ν, μ, r, (Fin.bnd (D := DV G) z).mono fun v H1 ⟨t, S1, ν1, μ1, a1, d1, z⟩ => ?_⟩
  refine ⟨env, S1, ν1, μ1, r.af a1, (Fin.bnd (D := DVs G) z).mono fun vs H2 ⟨ts, S2, ν2, μ2, a2, d2, z⟩ => ?_⟩
  refine Fin.ok z a2.st ?_
  simp only [DVs, Dns]
  exact ⟨v, vs, rfl, d1.af a2, d2⟩
theorem s_tup {x1 : Nat} (hr : PA X es (tA G W fs)) : PE X (.Tuple es x1 pos) (tE G W fun env => bnd (fs env) fun xs => if xs.length ≤ lim then ret (.tup xs) else bad) := by
  refine PE.imp (pe_tup hr) fun σ H Q ⟨env, S, ν, μ, r, z⟩ => ?_
  refine ⟨env, S, ν, μ, r, (Fin.bnd (D := DVs G) z).mono fun vs H1 ⟨ts, S1, ν1, μ1, a1, d1, z⟩ => ?_⟩
  split at z
  · rename_i hl
    exact ⟨by rw [← d1.length]; exact lim_le hl, fun p hp => z.newT a1.st hp d1⟩
  · exact z.elim
/-- a new list: its items, where it is -/
def tL (G : Wd) (W : WX) (f : Env → M (List Tv)) : TE := fun σ H Q => ∃ env S ν μ, Rl G env S ν μ σ H ∧ Fin G (Wk W σ) (fun ν' μ' H' (ts : List Tv) (v : V) => ∃ p vs, v = .ref p ∧ p ∈ ν' ∧ p ∉ μ' ∧ p ∉ ν ∧ H p = none ∧ H' p = some (.lst vs) ∧ Dns G ν' μ' H' ts vs) ν μ H (f env S) Q
theorem StR.less (s : StR G ν μ S H) (h1 : ∀ a ∈ ν', a ∈ ν) (h2 : ∀ a ∈ μ, a ∈ ν') : StR G ν' μ S H :=
  ⟨s.len, s.nd, h2, fun a q => s.trk a (h1 a q), fun n o e => let ⟨a, e1, r⟩ := s.ob n o e; ⟨a, e1, r.less h1⟩⟩
end
end Mp
namespace Mp
open PySem L2 PySem.Spec
section
variable {G : Wd} {n : Nat} {N : List Str} {sc : Scope} {W : WX} {X : Cx} {a b c e : Expr} {es : List Expr} {pos p p1 p2 p3 : Pos} {f h k : Env → M Tv} {ft ht kt : Env → M Bool} {fs hs : Env → M (List Tv)}
  {ν μ ν' μ' : List Addr} {H H' : Hp} {S S' : Sto}
/-! ### subscripts -/
def plainIx : Expr → Bool
  | .Slice _ _ _ _ => false
  | _ => true
theorem plainIx_is (h : plainIx b = true) : PlainIx b := by
  intro o i
  cases b <;> first | rfl | cases h
theorem Dns.at {ts : List Tv} {vs : List V} {j : Int} {t : Tv} (d : Dns G ν μ H ts vs) (e : atI ts j = some t) : ∃ v, atI vs j = some v ∧ Dn G ν μ H t v := by
  unfold atI at e ⊢
  cases z : ixN ts.length j with
  | none => rw [z] at e; cases e
  | some m =>
    rw [z] at e
    rw [← d.length, z]
    exact d.get e
def rXs (G : Wd) : R2 := fun x y H Q => ∃ Wc t u S ν μ, StR G ν μ S H ∧ Dn G ν μ H t x ∧ Dn G ν μ H u y ∧ Fin G Wc (DV G) ν μ H (opt (ixV S t u) S) Q
theorem ix_all (iw : InW G X) : IxR X (rXs G) := by
  intro value slice pins s σ H x y v u Q I rx ry ⟨Wc, t, u', S, ν, μ, st, d1, d2, z⟩ hs
  obtain ⟨r, e, z1⟩ := z.opt
  cases u' with
  | int j =>
    simp only [Dn] at d2
    subst d2
    have gen : ∀ ts, seqOf S t = some ts → atI ts j = some r → rIx X.K x (.int j) H Q := fun ts h1 h2 => by
      obtain ⟨q, vs, rfl, sq, d⟩ := seq_of st d1 h1
      obtain ⟨w, e1, d'⟩ := d.at h2
      rw [iw.K]
      rcases sq with sq | sq
      · exact .inl ⟨q, vs, j, w, rfl, rfl, sq, e1, z1.val st d'⟩
      · exact .inr (.inl ⟨q, vs, j, w, rfl, rfl, sq, e1, z1.val st d'⟩)
    refine ix_seq value slice pins s σ H x (.int j) v u Q I rx ry ?_ hs
    cases t with
    | str w =>
      simp only [ixV] at e
      split at e
      · rename_i hl
        obtain ⟨c, h1, rfl⟩ := Option.map_eq_some_iff.mp e
        simp only [Dn] at d1
        subst d1
        exact .inr (.inr ⟨w, j, c, rfl, rfl, lim_le hl, h1, z1.val st dn_str⟩)
      · cases e
    | _ =>
      simp only [ixV] at e
      obtain ⟨ts, h1, h2⟩ := Option.bind_eq_some_iff.mp e
      exact gen ts h1 h2
  | _ => simp [ixV] at e
theorem s_ix (g : Gd G n N sc W X) (ha : PE X a (tE G W f)) (hb : PE X b (tE G W h)) (hp : plainIx b = true) :
    PE X (.Subscript a b pos) (tE G W fun env => bnd (f env) fun x => bnd (h env) fun j S => opt (ixV S x j) S) :=
  PE.imp (pe_ix (ix_all g.iw) ha hb (plainIx_is hp)) fun σ H Q z => z.two fun S ν μ v w H' t u s d1 d2 y => ⟨_, t, u, S, ν, μ, s, d1, d2, y⟩
/-! ### slices -/
def tO (G : Wd) (W : WX) (f : Env → M (Option Int)) : TO := fun σ H Q => ∃ env S ν μ, Rl G env S ν μ σ H ∧ Fin G (Wk W σ) (fun _ _ _ a b => a = b) ν μ H (f env S) Q
abbrev endM (f : Env → M Tv) : Env → M (Option Int) := fun env => bnd (f env) fun x => match x with
  | .int i => ret (some i)
  | _ => bad
theorem PO.imp {e : Option Expr} {t t' : TO} (h : PO X e t) (i : ∀ σ H Q, t' σ H Q → t σ H Q) : PO X e t' := ⟨fun pins s σ H Q I q => h.run pins s σ H Q I (i σ H Q q)⟩
theorem s_end0 : PO X none (tO G W fun _ => ret none) := PO.imp po_none fun σ H Q ⟨env, S, ν, μ, r, z⟩ => Fin.ok z r.st rfl
theorem s_end (ha : PE X a (tE G W f)) : PO X (some a) (tO G W (endM f)) := PO.imp (po_some ha) fun σ H Q ⟨env, S, ν, μ, r, z⟩ => by
  refine ⟨env, S, ν, μ, r, (Fin.bnd (D := DV G) z).mono fun v H1 ⟨t, S1, ν1, μ1, a1, d1, z⟩ => ?_⟩
  cases t with
  | int i =>
    simp only [Dn] at d1
    subst d1
    exact ⟨i, rfl, Fin.ok z a1.st rfl⟩
  | _ => exact z.elim
theorem cut_dns {ts : List Tv} {vs : List V} {lo hi : Option Int} (d : Dns G ν μ H ts vs) : Dns G ν μ H (cutL ts lo hi) (cutV vs lo hi) := by
  unfold cutL cutV
  rw [d.length]
  exact Dns.take _ (Dns.drop _ d)
theorem cut_all {ts : List Tv} {lo hi : Option Int} (h : HT.sIx ts.length 0 lo = 0 ∧ HT.sIx ts.length ts.length hi = ts.length) : cutL ts lo hi = ts := by
  unfold cutL
  rw [h.1, h.2]
  simp
def rSls (G : Wd) : V → Option Int → Option Int → Hp → VK → Prop := fun x lo hi H Q => ∃ Wc t S ν μ, StR G ν μ S H ∧ Dn G ν μ H t x ∧ Fin G Wc (DV G) ν μ H (opt (slV S t lo hi) S) Q
theorem sl_any (iw : InW G X) : SlR X (rSls G) := by
  intro pins s σ H x v vl vu lo hi sl Q I rx hs pl pu ⟨Wc, t, S, ν, μ, st, d1, z⟩
  obtain ⟨r, e, z⟩ := z.opt
  have gen : ∀ ts, r = .lst (cutL ts lo hi) → ∀ q vs, x = .ref q → SqL X.K H q vs → Dns G ν μ H ts vs → rSlL X.K x lo hi H Q := fun ts er q vs ex sq d => by
    subst er
    exact ⟨q, vs, ex, sq, fun l hl => z.newL st hl (cut_dns d)⟩
  refine SlR.or sl_tupA sl_list pins s σ H x v vl vu lo hi sl Q I rx hs pl pu ?_
  cases t with
  | tup ts =>
    simp only [slV, Option.some.injEq] at e
    subst e
    have d1' := d1
    simp only [Dn] at d1
    obtain ⟨q, vs, rfl, fz, d⟩ := d1
    refine .inl ⟨q, vs, rfl, by rw [iw.K]; exact fz.sq, fun hw => ?_, fun hw l hl => z.newT st hl (cut_dns d)⟩
    rw [← d.length] at hw
    rw [cut_all hw] at z
    exact z.val st d1'
  | scr ts =>
    simp only [slV, Option.some.injEq] at e
    simp only [Dn] at d1
    obtain ⟨q, vs, rfl, hq, d⟩ := d1
    exact .inr (gen ts e.symm q vs rfl (by rw [iw.K]; exact hq.sq) d)
  | lst us =>
    obtain ⟨ts, h1, h2⟩ := Option.map_eq_some_iff.mp (show (lstOf S (.lst us)).map (fun ts => Tv.lst (cutL ts lo hi)) = some r from e)
    obtain ⟨q, vs, ex, hq, d⟩ := lst_of st d1 h1
    exact .inr (gen ts h2.symm q vs ex (.inl (.inl hq)) d)
  | cell m =>
    obtain ⟨ts, h1, h2⟩ := Option.map_eq_some_iff.mp (show (lstOf S (.cell m)).map (fun ts => Tv.lst (cutL ts lo hi)) = some r from e)
    obtain ⟨q, vs, ex, hq, d⟩ := lst_of st d1 h1
    exact .inr (gen ts h2.symm q vs ex (.inl (.inl hq)) d)
  | _ => simp [slV, lstOf] at e
theorem s_sl {lo hi : Option Expr} {l u : Env → M (Option Int)} (g : Gd G n N sc W X) (ha : PE X a (tE G W f)) (hl : PO X lo (tO G W l)) (hu : PO X hi (tO G W u)) :
    PE X (.Subscript a (.Slice lo hi none p) pos) (tE G W fun env => bnd (f env) fun x => bnd (l env) fun i => bnd (u env) fun j S => opt (slV S x i j) S) := by
  refine PE.imp (pe_slice (sl_any g.iw) ha hl hu) fun σ H Q ⟨env, S, ν, μ, r, z⟩ => ?_
  refine ⟨env, S, ν, μ, r, (Fin.bnd (D := DV G) z).mono fun v H1 ⟨t, S1, ν1, μ1, a1, d1, z⟩ => ?_⟩
  refine ⟨env, S1, ν1, μ1, r.af a1, (Fin.bnd (D := fun _ _ _ a b => a = b) z).mono fun i H2 ⟨i', S2, ν2, μ2, a2, d2, z⟩ => ?_⟩
  refine ⟨env, S2, ν2, μ2, (r.af a1).af a2, (Fin.bnd (D := fun _ _ _ a b => a = b) z).mono fun j H3 ⟨j', S3, ν3, μ3, a3, d3, z⟩ => ?_⟩
  subst d2 d3
  exact ⟨_, t, S3, ν3, μ3, a3.st, (d1.af a2).af a3, z⟩
theorem s_rev {kk : Nat} (g : Gd G n N sc W X) (ha : PE X a (tE G W f)) :
    PE X (.Subscript a (.Slice none none (some (.UnaryOp .USub (.Constant (.int 1) kk p1) p2)) p3) pos) (tE G W fun env => bnd (f env) fun x S => opt (revV S x) S) := by
  refine PE.imp (pe_revL ha) fun σ H Q z => z.one fun S ν μ v H' t s d y => ?_
  obtain ⟨r, e, y1⟩ := y.opt
  obtain ⟨ts, h1, h2⟩ := Option.map_eq_some_iff.mp (show (lstOf S t).map (fun ts => Tv.lst ts.reverse) = some r from e)
  subst h2
  obtain ⟨q, vs, ex, hq, d⟩ := lst_of s d h1
  exact ⟨q, vs, ex, .inl (.inl hq), fun l hl => y1.newL s hl d.reverse⟩
/-! ### calls -/
/-- what a def promises, by the evaluator -/
def spF (G : Wd) (m : List Tv → M Tv) : Sp := fun vs H Q E => ∃ ts S ν μ, StR G ν μ S H ∧ Dns G ν μ H ts vs ∧ Fin G E (DV G) ν μ H (m ts S) Q
theorem s_call {k : Nat} {fa : Addr} {fd : FuncData} {ps : List Str} {x : Str} {m : List Tv → M Tv} (g : Gd G n N sc W X) (F : FnG G k fa fd ps (spF G m)) (hr : k ≤ n) (hg : Gl X x) (hm : G.mg x = some (.ref fa)) (hk : PySem.W.keepIn G.K (.ref fa) = true)
    (hb : Binds G.K fd ps []) (ha : PA X (e :: es) (tA G W fs)) (ns : (e :: es).all notStar = true) (hdb : (x == ("__debug__" : Str)) = false) :
    PE X (.Call (.Name x p) (e :: es) [] pos) (tE G W fun env => bnd (fs env) m) := by
  refine PE.imp (pe_cl g.iw g.tk F (g.room.mono hr) hg hm hk hb ha ns hdb) fun σ H Q ⟨env, S, ν, μ, r, z⟩ => ?_
  exact ⟨env, S, ν, μ, r, (Fin.bnd (D := DVs G) z).mono fun vs H1 ⟨ts, S1, ν1, μ1, a1, d1, z⟩ => ⟨ts, S1, ν1, μ1, a1.st, d1, z⟩⟩
theorem s_call0 {k : Nat} {fa : Addr} {fd : FuncData} {ps : List Str} {x : Str} {m : List Tv → M Tv} (g : Gd G n N sc W X) (F : FnG G k fa fd ps (spF G m)) (hr : k ≤ n) (hg : Gl X x) (hm : G.mg x = some (.ref fa)) (hk : PySem.W.keepIn G.K (.ref fa) = true)
    (hb : Binds G.K fd ps []) (hdb : (x == ("__debug__" : Str)) = false) : PE X (.Call (.Name x p) [] [] pos) (tE G W fun env => bnd (ret []) m) := by
  refine PE.imp (pe_cl0 g.iw g.tk F (g.room.mono hr) hg hm hk hb hdb) fun σ H Q ⟨env, S, ν, μ, r, z⟩ => ?_
  exact ⟨[], S, ν, μ, r.st, by simp only [Dns], z⟩
def rPs (G : Wd) (q : Pr) : List V → Hp → VK → Prop := fun vs H Q => ∃ Wc, rP G Wc q vs H Q
def Pr.nm : Pr → Str
  | .len => "len" | .tuple => "tuple" | .int => "int" | .abs => "abs" | .sum => "sum" | .max => "max" | .min => "min" | .max2 => "max" | .min2 => "min" | .minD => "min" | .all => "all" | .any => "any" | .repr => "repr" | .str => "str"
def Pr.val : Pr → Value
  | .len => .builtin "len" | .tuple => .type "tuple" | .int => .type "int" | .abs => .builtin "abs" | .sum => .builtin "sum" | .max => .builtin "max" | .min => .builtin "min" | .max2 => .builtin "max" | .min2 => .builtin "min" | .minD => .builtin "min"
  | .all => .builtin "all" | .any => .builtin "any" | .repr => .builtin "repr" | .str => .type "str"
theorem cr_pr (g : Gd G n N sc W X) {q : Pr} (hq : q ≠ .minD) : CallR X q.val (rPs G q) := by
  intro pins s σ H vs us Q I rv ⟨Wc, z⟩
  cases q with
  | len => exact cr_len g pins s σ H vs us Q I rv z
  | tuple => exact cr_tuple g pins s σ H vs us Q I rv z
  | int => exact cr_int g pins s σ H vs us Q I rv z
  | abs => exact cr_abs g pins s σ H vs us Q I rv z
  | sum => exact cr_sum g pins s σ H vs us Q I rv z
  | max => exact cr_max g pins s σ H vs us Q I rv z
  | min => exact cr_min g pins s σ H vs us Q I rv z
  | max2 => exact cr_max2 g pins s σ H vs us Q I rv z
  | min2 => exact cr_min2 g pins s σ H vs us Q I rv z
  | all => exact cr_all g pins s σ H vs us Q I rv z
  | any => exact cr_any g pins s σ H vs us Q I rv z
  | repr => exact cr_repr g pins s σ H vs us Q I rv z
  | str => exact cr_str g pins s σ H vs us Q I rv z
  | minD => exact absurd rfl hq
theorem boot_pr {q : Pr} : bootBuiltins q.nm = some q.val := by cases q <;> decide +kernel
theorem pr_nm {q : Pr} : q.nm ≠ "__name__" ∧ (q.nm == ("__debug__" : Str)) = false := by cases q <;> exact ⟨by decide, by decide⟩
theorem s_prim {q : Pr} (g : Gd G n N sc W X) (hq : q ≠ .minD) (hg : Gl X q.nm) (hm : G.mg q.nm = none) (ha : PA X (e :: es) (tA G W fs)) (ns : (e :: es).all notStar = true) :
    PE X (.Call (.Name q.nm p) (e :: es) [] pos) (tE G W fun env => bnd (fs env) fun xs S => opt (primV q S xs) S) := by
  have ns' : notStar e = true ∧ es.all notStar = true := by simpa using ns
  have hm' : X.mg q.nm = none := by rw [g.iw.mg]; exact hm
  have key : PE X (.Call (.Name q.nm p) (e :: es) [] pos) (tCB (rPs G q) (tA G W fs)) := by
    have cr := cr_pr g hq
    have bt := boot_pr (q := q)
    generalize hv : q.val = v at cr bt
    cases q with
    | tuple => cases hv; exact pe_callTy cr hg hm' bt ha pr_nm.1 pr_nm.2 (star_cons ns'.1 es) (star_any ns'.2)
    | int => cases hv; exact pe_callTy cr hg hm' bt ha pr_nm.1 pr_nm.2 (star_cons ns'.1 es) (star_any ns'.2)
    | str => cases hv; exact pe_callTy cr hg hm' bt ha pr_nm.1 pr_nm.2 (star_cons ns'.1 es) (star_any ns'.2)
    | _ => cases hv; exact pe_callB cr hg hm' bt ha pr_nm.1 pr_nm.2 (star_cons ns'.1 es) (star_any ns'.2)
  refine PE.imp key fun σ H Q ⟨env, S, ν, μ, r, z⟩ => ?_
  exact ⟨env, S, ν, μ, r, (Fin.bnd (D := DVs G) z).mono fun vs H1 ⟨ts, S1, ν1, μ1, a1, d1, z⟩ => ⟨_, ts, S1, ν1, μ1, a1.st, d1, z⟩⟩
end
end Mp
namespace Mp
open PySem L2 PySem.Spec
section
variable {G : Wd} {n : Nat} {N : List Str} {sc : Scope} {W : WX} {X : Cx} {a b c e : Expr} {es : List Expr} {pos p p1 p2 p3 : Pos} {f h k : Env → M Tv} {ft ht kt : Env → M Bool} {fs hs : Env → M (List Tv)}
  {ν μ ν' μ' ν1 μ1 : List Addr} {H H' H1 : Hp} {S S' : Sto}
/-! ### methods of lists in the store -/
theorem cell_at {m : Nat} {ts : List Tv} {v : V} (s : StR G ν μ S H) (d : Dn G ν μ H (.cell m) v) (e : S[m]? = some (.lst ts)) : ∃ q vs, v = .ref q ∧ μ[m]? = some q ∧ H q = some (.lst vs) ∧ Dns G ν μ H ts vs := by
  simp only [Dn] at d
  obtain ⟨q, rfl, hq⟩ := d
  obtain ⟨vs, h1, h2⟩ := s.at e hq
  exact ⟨q, vs, rfl, hq, h1, h2⟩
theorem Dns.write {q : Addr} {o : HO} {ts : List Tv} {vs : List V} (hq : q ∈ ν) (d : Dns G ν μ H ts vs) : Dns G ν μ (upd H q o) ts vs := Dns.kp (.write hq) (List.prefix_refl _) _ _ d
theorem Dn.write {q : Addr} {o : HO} {t : Tv} {v : V} (hq : q ∈ ν) (d : Dn G ν μ H t v) : Dn G ν μ (upd H q o) t v := Dn.kp (.write hq) (List.prefix_refl _) _ _ d
/-- the list at a place is another one -/
theorem StR.lst {m : Nat} {q : Addr} {ts : List Tv} {vs : List V} (s : StR G ν μ S H) (hq : μ[m]? = some q) (d : Dns G ν μ H ts vs) : StR G ν μ (S.set m (.lst ts)) (upd H q (.lst vs)) :=
  s.write hq ⟨vs, upd_same, d.write (s.sub q (List.mem_of_getElem? hq))⟩
theorem Af.lst {m : Nat} {q : Addr} {ts : List Tv} {vs : List V} (s : StR G ν μ S H) (hq : μ[m]? = some q) (d : Dns G ν μ H ts vs) : Af G ν μ H ν μ (S.set m (.lst ts)) (upd H q (.lst vs)) :=
  ⟨.write (s.sub q (List.mem_of_getElem? hq)), List.prefix_refl _, s.lst hq d, fun _ h => .inl h, fun a u n e => by rw [upd_ne (fun z => n (by rw [z]; exact List.mem_of_getElem? hq))]; exact e⟩
theorem Dns.dropLast {ts : List Tv} {vs : List V} (d : Dns G ν μ H ts vs) : Dns G ν μ H ts.dropLast vs.dropLast := by
  rw [List.dropLast_eq_take, List.dropLast_eq_take, ← d.length]
  exact d.take _
theorem needL_ok {x : Tv} {r : Rs Nat} (e : needL x S = r) : (∃ m ts, x = .cell m ∧ S[m]? = some (.lst ts) ∧ r = .ok m S) ∨ r = .bad := by
  subst e
  unfold needL
  cases x with
  | cell m =>
    simp only
    cases e : S[m]? with
    | none => exact .inr rfl
    | some o => cases o with
      | lst ts => exact .inl ⟨m, ts, rfl, e, rfl⟩
      | _ => exact .inr rfl
  | _ => exact .inr rfl
theorem Fin.need {x : Tv} {Wc : Value → Option Addr → Hp → Prop} {kk : M Tv} {Q : VK} (z : Fin G Wc (DV G) ν μ H ((needL x S).bnd fun _ => kk) Q) : (∃ m ts, x = .cell m ∧ S[m]? = some (.lst ts)) ∧ Fin G Wc (DV G) ν μ H (kk S) Q := by
  rcases needL_ok (S := S) (x := x) rfl with ⟨m, ts, e1, e2, e3⟩ | e
  · rw [e3] at z
    exact ⟨⟨m, ts, e1, e2⟩, z⟩
  · rw [e] at z
    exact z.elim
theorem s_pop {apos : Pos} (ha : PE X a (tE G W f)) (hbase : attributeBase a "pop" X.env (eval a X.env) = eval a X.env) (hline : (apos.endLine == pos.line) = true) :
    PE X (.Call (.Attribute a "pop" apos) [] [] pos) (tE G W fun env => bnd (f env) popL) := by
  refine PE.imp (pe_bm0 PySem.F.plainAttrs_list PySem.F.slot_list_pop PySem.F.type_list_pop mt_pop ha hbase hline) fun σ H Q z => z.one fun S ν μ v H' t s d y => ?_
  unfold popL at y
  cases t with
  | cell m =>
    simp only at y
    cases e : S[m]? with
    | none => rw [e] at y; exact y.elim
    | some o =>
      rw [e] at y
      cases o with
      | lst ts =>
        simp only at y
        cases e2 : ts.getLast? with
        | none => rw [e2] at y; exact y.elim
        | some t =>
          rw [e2] at y
          obtain ⟨q, vs, rfl, hq, h1, d1⟩ := cell_at s d e
          rw [List.getLast?_eq_getElem?] at e2
          obtain ⟨w, e3, d2⟩ := d1.get e2
          rw [d1.length] at e3
          refine ⟨.inl ⟨rfl, vs, .inl (.inl h1)⟩, q, vs, w, rfl, rfl, h1, e3, ?_⟩
          have a := Af.lst s hq d1.dropLast
          exact y _ _ _ _ a (d2.af a)
      | _ => exact y.elim
  | _ => exact y.elim
theorem pa_one (ns : notStar a = true) (ha : PE X a (tE G W f)) : PA X [a] (tA G W fun env => bnd (f env) fun x => bnd (ret []) fun xs => ret (x :: xs)) := s_cons ns ha s_nil
theorem tA_one {σ : L2.St} {Q : List V → Hp → Prop} {env : Env} (r : Rl G env S ν μ σ H) (z : Fin G (Wk W σ) (DV G) ν μ H (f env S) fun v H' => Q [v] H') : tA G W (fun env => bnd (f env) fun x => bnd (ret []) fun xs => ret (x :: xs)) σ H Q := by
  refine ⟨env, S, ν, μ, r, ?_⟩
  simp only [bnd]
  cases e : f env S with
  | ok t S1 =>
    rw [e] at z
    intro vs H' ν' μ' a d
    obtain ⟨v, rfl, d'⟩ := Dns.un1 d
    exact z v H' ν' μ' a d'
  | ex c fs S1 => rw [e] at z; exact z
  | bad => rw [e] at z; exact z
theorem few1 {X : Cx} (ns : notStar b = true) : ((backTo pos (starEach [b] X.env)).all (fun x => !x.1) && (backToKw pos (keywordEach [] X.env)).all (fun x => x.1.isSome) && decide ([b].length + ([] : List Keyword).length + (if ([] : List Keyword).isEmpty then 0 else 1) < 30)) = true := by
  rw [star_cons ns]
  rfl
theorem seqIx_nat {j : Int} {m : Nat} (h0 : 0 ≤ j) (h1 : j.toNat < m) : seqIndex? j m = some j.toNat := seqIndex_of h0 (by omega)
theorem s_popAt {apos : Pos} (ha : PE X a (tE G W f)) (hb : PE X b (tE G W h)) (ns : notStar b = true) (hbase : attributeBase a "pop" X.env (eval a X.env) = eval a X.env) (hline : (apos.endLine == pos.line) = true) :
    PE X (.Call (.Attribute a "pop" apos) [b] [] pos) (tE G W fun env => bnd (f env) fun x => bnd (needL x) fun _ => bnd (h env) fun j => popAtL x j) := by
  refine PE.imp (pe_bm PySem.F.plainAttrs_list PySem.F.slot_list_pop PySem.F.type_list_pop mt_popAt ha (pa_one ns hb) hbase (few1 ns) hline (star_cons ns []) rfl) fun σ H Q ⟨env, S, ν, μ, r, z⟩ => ?_
  refine ⟨env, S, ν, μ, r, (Fin.bnd (D := DV G) z).mono fun v H1 ⟨t, S1, ν1, μ1, a1, d1, z⟩ => ?_⟩
  obtain ⟨⟨m, ts, rfl, e⟩, z⟩ := z.need
  obtain ⟨q, vs, rfl, hq, h1, d2⟩ := cell_at a1.st d1 e
  refine ⟨.inl ⟨rfl, vs, .inl (.inl h1)⟩, tA_one (r.af a1) ((Fin.bnd (D := DV G) z).mono fun w H2 ⟨u, S2, ν2, μ2, a2, d3, z⟩ => ?_)⟩
  unfold popAtL at z
  cases u with
  | int j =>
    simp only [Dn] at d3
    subst d3
    simp only at z
    cases e2 : S2[m]? with
    | none => rw [e2] at z; exact z.elim
    | some o =>
      rw [e2] at z
      cases o with
      | lst ts2 =>
        simp only at z
        split at z
        · rename_i hj
          cases e3 : ts2[j.toNat]? with
          | none => rw [e3] at z; exact z.elim
          | some t2 =>
            rw [e3] at z
            obtain ⟨q2, vs2, eq2, hq2, h2, d4⟩ := cell_at a2.st (d1.af a2) e2
            cases eq2
            obtain ⟨w2, e4, d5⟩ := d4.get e3
            have hl : j.toNat < vs2.length := (List.getElem?_eq_some_iff.mp e4).1
            have a3 := Af.lst a2.st hq2 (d4.eraseIdx j.toNat)
            exact ⟨q, vs2, j, j.toNat, w2, rfl, rfl, h2, by omega, by omega, seqIx_nat hj.1 hl, e4, z _ _ _ _ a3 (d5.af a3)⟩
        · exact z.elim
      | _ => exact z.elim
  | _ => exact z.elim
theorem s_app {apos : Pos} (ha : PE X a (tE G W f)) (hb : PE X b (tE G W h)) (ns : notStar b = true) (hbase : attributeBase a "append" X.env (eval a X.env) = eval a X.env) (hline : (apos.endLine == pos.line) = true) :
    PE X (.Call (.Attribute a "append" apos) [b] [] pos) (tE G W fun env => bnd (f env) fun x => bnd (needL x) fun _ => bnd (h env) fun y => appL x y) := by
  refine PE.imp (pe_bm PySem.F.plainAttrs_list PySem.F.slot_list_append PySem.F.type_list_append mt_append ha (pa_one ns hb) hbase (few1 ns) hline (star_cons ns []) rfl) fun σ H Q ⟨env, S, ν, μ, r, z⟩ => ?_
  refine ⟨env, S, ν, μ, r, (Fin.bnd (D := DV G) z).mono fun v H1 ⟨t, S1, ν1, μ1, a1, d1, z⟩ => ?_⟩
  obtain ⟨⟨m, ts, rfl, e⟩, z⟩ := z.need
  obtain ⟨q, vs, rfl, hq, h1, d2⟩ := cell_at a1.st d1 e
  refine ⟨.inl ⟨rfl, vs, .inl (.inl h1)⟩, tA_one (r.af a1) ((Fin.bnd (D := DV G) z).mono fun w H2 ⟨u, S2, ν2, μ2, a2, d3, z⟩ => ?_)⟩
  unfold appL at z
  simp only at z
  cases e2 : S2[m]? with
  | none => rw [e2] at z; exact z.elim
  | some o =>
    rw [e2] at z
    cases o with
    | lst ts2 =>
      simp only at z
      split at z
      · rename_i hj
        obtain ⟨q2, vs2, eq2, hq2, h2, d4⟩ := cell_at a2.st (d1.af a2) e2
        cases eq2
        have a3 := Af.lst a2.st hq2 (d4.append (Dns.one d3))
        refine ⟨q, vs2, w, rfl, rfl, h2, ?_, z _ _ _ _ a3 dn_non⟩
        have := lim_le (n := ts2.length + 1) hj
        rw [← d4.length]
        omega
      · exact z.elim
    | _ => exact z.elim
/-! ### a new list: as a thing that stays as it is, as a place -/
theorem StR.adopt {q : Addr} {ts : List Tv} {vs : List V} (s : StR G ν μ S H) (h1 : q ∈ ν) (h2 : q ∉ μ) (h3 : H q = some (.lst vs)) (d : Dns G ν μ H ts vs) : StR G ν (μ ++ [q]) (S ++ [.lst ts]) H := by
  have pre : μ <+: μ ++ [q] := List.prefix_append _ _
  refine ⟨by rw [List.length_append, List.length_append, s.len]; rfl, ?_, fun a ha => ?_, s.trk, fun m v e => ?_⟩
  · rw [List.nodup_append]
    exact ⟨s.nd, List.nodup_cons.mpr ⟨by simp, List.nodup_nil⟩, fun a ha b hb => by
      rw [List.mem_singleton.mp hb]
      exact fun z => h2 (by rw [← z]; exact ha)⟩
  · rcases List.mem_append.mp ha with z | z
    · exact s.sub a z
    · rw [List.mem_singleton.mp z]; exact h1
  · by_cases hm : m < S.length
    · rw [List.getElem?_append_left hm] at e
      obtain ⟨a, e1, r⟩ := s.ob m v e
      exact ⟨a, by rw [List.getElem?_append_left (by rw [s.len]; exact hm)]; exact e1, r.kp .refl pre rfl⟩
    · have em : m = S.length := by
        have := (List.getElem?_eq_some_iff.mp e).1
        rw [List.length_append] at this
        have : m < S.length + 1 := this
        omega
      subst em
      rw [List.getElem?_append_right (Nat.le_refl _), Nat.sub_self] at e
      cases e
      exact ⟨q, by rw [List.getElem?_append_right (by rw [s.len]; exact Nat.le_refl _), s.len, Nat.sub_self]; rfl, vs, h3, Dns.kp .refl pre _ _ d⟩
theorem s_fz (ha : PE X e (tL G W fs)) : PE X e (tE G W fun env => bnd (fs env) fun xs => ret (.lst xs)) := by
  refine PE.imp ha fun σ H Q ⟨env, S, ν, μ, r, z⟩ => ⟨env, S, ν, μ, r, ?_⟩
  simp only [bnd] at z
  cases e : fs env S with
  | ok ts S1 =>
    rw [e] at z
    rintro v H' ν' μ' a ⟨q, vs, rfl, h1, h2, h3, h4, h5, d⟩
    have nd : ∀ y ∈ ν'.filter (fun y => decide (y ≠ q)), y ∈ ν' := fun y hy => (List.mem_filter.mp hy).1
    have a' : Af G ν μ H (ν'.filter (fun y => decide (y ≠ q))) μ' S1 H' := by
      refine ⟨⟨fun y hy => List.mem_filter.mpr ⟨a.kp.sub y hy, decide_eq_true (fun z => h3 (z ▸ hy))⟩, fun y hy => a.kp.new y (nd y hy), a.kp.keep⟩, a.pre, a.st.less nd fun y hy => List.mem_filter.mpr ⟨a.st.sub y hy, decide_eq_true (fun z => h2 (z ▸ hy))⟩, a.nm, a.lk⟩
    refine z (.ref q) H' _ μ' a' ?_
    show Dn G _ μ' H' (.lst ts) (.ref q)
    simp only [Dn]
    exact ⟨q, vs, rfl, ⟨fun hy => by have := (List.mem_filter.mp hy).2; simp at this, h5⟩, Dns.less nd _ _ d⟩
  | ex c fs S1 => rw [e] at z; exact z
  | bad => rw [e] at z; exact z
theorem s_mu (ha : PE X e (tL G W fs)) : PE X e (tE G W fun env => bnd (fs env) fun xs => alloc (.lst xs)) := by
  refine PE.imp ha fun σ H Q ⟨env, S, ν, μ, r, z⟩ => ⟨env, S, ν, μ, r, ?_⟩
  simp only [bnd] at z
  cases e : fs env S with
  | ok ts S1 =>
    rw [e] at z
    rintro v H' ν' μ' a ⟨q, vs, rfl, h1, h2, h3, h4, h5, d⟩
    have st := a.st.adopt h1 h2 h5 d
    refine z (.ref q) H' ν' (μ' ++ [q]) ⟨a.kp, a.pre.trans (List.prefix_append _ _), st, fun y hy => by
      rcases List.mem_append.mp hy with w | w
      · exact a.nm y w
      · rw [List.mem_singleton.mp w]; exact .inr h4, a.lk⟩ ?_
    show Dn G _ _ H' (.cell S1.length) (.ref q)
    simp only [Dn]
    exact ⟨q, rfl, by rw [← a.st.len]; simp⟩
  | ex c fs S1 => rw [e] at z; exact z
  | bad => rw [e] at z; exact z
theorem new_none (s : StR G ν1 μ1 S H1) (k : Kp ν H ν1 H1) {q : Addr} (hq : H1 q = none) : q ∉ ν1 ∧ q ∉ ν ∧ H q = none := by
  have h1 := s.fresh hq
  refine ⟨h1, fun z => h1 (k.sub q z), ?_⟩
  cases e : H q with
  | none => rfl
  | some o =>
    by_cases z : q ∈ ν
    · exact absurd (k.sub q z) h1
    · rw [k.keep q o z e] at hq; cases hq
theorem Af.place0 {q : Addr} {vs : List V} (s : StR G ν μ S H) (hq : H q = none) : Af G ν μ H (q :: ν) μ S (upd H q (.lst vs)) := by
  have k : Kp ν H (q :: ν) (upd H q (.lst vs)) := .place hq
  refine ⟨k, List.prefix_refl _, ⟨s.len, s.nd, fun a ha => List.mem_cons_of_mem _ (s.sub a ha), fun a ha => ?_, fun m o e => ?_⟩, fun _ h => .inl h, fun a u _ e => by rw [upd_ne (ne_of_none e hq)]; exact e⟩
  · rcases List.mem_cons.mp ha with z | z
    · rw [z]; exact ⟨_, upd_same⟩
    · obtain ⟨o, e⟩ := s.trk a z
      exact ⟨o, by rw [upd_ne (ne_of_none e hq)]; exact e⟩
  · obtain ⟨a, e1, r⟩ := s.ob m o e
    obtain ⟨z, ez⟩ := r.some
    exact ⟨a, e1, r.kp k (List.prefix_refl _) (upd_ne (ne_of_none ez hq))⟩
theorem s_disp (hr : PA X es (tA G W fs)) : PE X (.List es pos) (tL G W fun env => bnd (fs env) fun xs => if xs.length ≤ lim then ret xs else bad) := by
  refine PE.imp (pe_lst hr) fun σ H Q ⟨env, S, ν, μ, r, z⟩ => ?_
  refine ⟨env, S, ν, μ, r, ?_⟩
  simp only [bnd] at z
  cases e : fs env S with
  | ok ts S1 =>
    rw [e] at z
    intro vs H1 ν1 μ1 a d
    simp only [Rs.bnd] at z
    split at z
    · rename_i hl
      refine ⟨by rw [← Dns.length d]; exact lim_le hl, fun q hq => ?_⟩
      obtain ⟨n1, n2, n3⟩ := new_none a.st a.kp hq
      have a2 := Af.place0 (vs := vs) a.st hq
      exact z (.ref q) _ _ _ (a.trans a2) ⟨q, vs, rfl, List.mem_cons_self, fun m => n1 (a.st.sub q m), n2, n3, upd_same, Dns.af a2 d⟩
    · exact z.elim
  | ex c fs S1 => rw [e] at z; exact z
  | bad => rw [e] at z; exact z
theorem s_ofSeq (g : Gd G n N sc W X) (hg : Gl X "list") (hm : G.mg "list" = none) (ns : notStar a = true) (ha : PE X a (tE G W f)) : PE X (.Call (.Name "list" p) [a] [] pos) (tL G W fun env => bnd (f env) fun x S => opt (seqOf S x) S) := by
  refine PE.imp (pe_callTy call_list_of hg (by rw [g.iw.mg]; exact hm) (by decide +kernel) (pa_one ns ha) (by decide) (by decide) (star_cons ns []) rfl) fun σ H Q ⟨env, S, ν, μ, r, z⟩ => ?_
  refine tA_one r ?_
  simp only [bnd] at z
  cases e : f env S with
  | ok t S1 =>
    rw [e] at z
    intro v H1 ν1 μ1 a d
    simp only [Rs.bnd] at z
    cases e2 : seqOf S1 t with
    | none => rw [e2] at z; exact z.elim
    | some ts =>
      rw [e2] at z
      obtain ⟨q, vs, rfl, sq, d1⟩ := seq_of a.st d e2
      refine ⟨q, vs, rfl, by rw [g.iw.K]; exact sq, fun l hl => ?_⟩
      obtain ⟨n1, n2, n3⟩ := new_none a.st a.kp hl
      have a2 := Af.place0 (vs := vs) a.st hl
      exact z (.ref l) _ _ _ (a.trans a2) ⟨l, vs, rfl, List.mem_cons_self, fun m => n1 (a.st.sub l m), n2, n3, upd_same, Dns.af a2 d1⟩
  | ex c fs S1 => rw [e] at z; exact z
  | bad => rw [e] at z; exact z
end
end Mp
namespace Mp
open PySem L2 PySem.Spec
section
variable {G : Wd} {n : Nat} {N : List Str} {sc : Scope} {W W0 : WX} {X : Cx} {a b c e : Expr} {es : List Expr} {pos p p1 p2 p3 : Pos} {f h k : Env → M Tv} {ft ht kt : Env → M Bool} {fs hs : Env → M (List Tv)}
  {ν μ ν' μ' ν1 μ1 : List Addr} {H H' H1 : Hp} {S S' : Sto}
/-! ### targets -/
mutual
def Tg.slots : Tg → List Nat
  | .v i => [i]
  | .tup ts => Tg.slotss ts
def Tg.slotss : List Tg → List Nat
  | [] => []
  | t :: r => t.slots ++ Tg.slotss r
end
theorem wipe_set {σ : L2.St} {i : Nat} {x : Option V} : ∀ {vs : List Nat}, i ∈ vs → wipe (σ.set i x) vs = wipe σ vs
  | v :: vs, h => by
    unfold wipe
    by_cases hi : i ∈ vs
    · rw [wipe_set hi]
    · have e : v = i := by
        rcases List.mem_cons.mp h with q | q
        · exact q.symm
        · exact absurd q hi
      subst e
      have g : ∀ (ws : List Nat) (τ : L2.St), (wipe (τ.set v x) ws).set v none = (wipe τ ws).set v none := by
        intro ws
        induction ws with
        | nil => intro τ; unfold wipe; rw [List.set_set]
        | cons w ws ih =>
          intro τ
          unfold wipe
          by_cases hw : w = v
          · subst hw; rw [List.set_set, List.set_set]; exact ih τ
          · rw [List.set_comm _ _ hw, ih τ, List.set_comm _ _ (Ne.symm hw)]
      exact g vs σ
theorem wipe_wipe {σ : L2.St} {vs : List Nat} : ∀ {ws : List Nat}, (∀ i ∈ ws, i ∈ vs) → wipe (wipe σ ws) vs = wipe σ vs
  | [], _ => rfl
  | w :: ws, h => by
    show wipe ((wipe σ ws).set w none) vs = _
    rw [wipe_set (h w List.mem_cons_self)]
    exact wipe_wipe fun i hi => h i (List.mem_cons_of_mem _ hi)
/-- only these names are other ones -/
def OnlyS (l : List Nat) (σ σ' : L2.St) : Prop := ∀ vs : List Nat, (∀ i ∈ l, i ∈ vs) → wipe σ' vs = wipe σ vs
def gT (G : Wd) (tg : Tg) : TG := fun v σ H Q => ∃ t env ν μ e, EnR G ν μ H env σ ∧ Dn G ν μ H t v ∧ setTg tg t env = some e ∧ ∀ σ', EnR G ν μ H e σ' → OnlyS tg.slots σ σ' → Q σ' H
def gTs (G : Wd) (tgs : List Tg) : TGs := fun vs σ H Q => ∃ ts env ν μ e, EnR G ν μ H env σ ∧ Dns G ν μ H ts vs ∧ setTgs tgs ts env = some e ∧ ∀ σ', EnR G ν μ H e σ' → OnlyS (Tg.slotss tgs) σ σ' → Q σ' H
theorem PG.imp {tg : Expr} {t t' : TG} (h : PG X tg t) (i : ∀ v σ H Q, t' v σ H Q → t v σ H Q) : PG X tg t' := ⟨fun pins s σ H v u Q I r q => h.run pins s σ H v u Q I r (i v σ H Q q)⟩
theorem PGs.imp {tg : List Expr} {t t' : TGs} (h : PGs X tg t) (i : ∀ v σ H Q, t' v σ H Q → t v σ H Q) : PGs X tg t' := ⟨fun pins s σ H v u Q I r q => h.run pins s σ H v u Q I r (i v σ H Q q)⟩
/-- what Gd asks of names that are stored -/
def LocB (sc : Scope) (x : Str) : Bool := match sc.names.lookup x with
  | some .local => true
  | some .cell => true
  | _ => false
theorem loc_of {x : Str} (h : LocB sc x = true) : L2.Loc sc x := by
  unfold LocB at h
  unfold L2.Loc
  split at h
  · exact .inl (by assumption)
  · exact .inr (by assumption)
  · cases h
theorem s_tgv {i : Nat} {x : Str} (g : Gd G n N sc W X) (fn : sc.names.lookup x = some .cell → X.fn x = true) (hi : N[i]? = some x) (hx : LocB sc x = true) : PG X (.Name x pos) (gT G (.v i)) := by
  have hf : X.fn x = true ∨ X.env.scope.names.lookup x = some .local := by
    rw [g.sc]
    rcases loc_of hx with q | q
    · exact .inr q
    · exact .inl (fn q)
  refine PG.imp (pg_name (i := i) (by rw [g.nms]; exact g.nd) (by rw [g.nms]; exact hi) (by rw [g.sc]; exact loc_of hx) hf) fun v σ H Q ⟨t, env, ν, μ, e, r, d, he, q⟩ => ?_
  cases he
  exact q _ (r.set d) fun vs hvs => wipe_set (hvs i (by simp [Tg.slots]))
theorem s_tgn : PGs X [] (gTs G []) := PGs.imp pgs_nil fun vs σ H Q ⟨ts, env, ν, μ, e, r, d, he, q⟩ => by
  cases ts with
  | nil =>
    simp only [Dns] at d
    cases he
    exact ⟨d, q σ r fun _ _ => rfl⟩
  | cons t r => simp [setTgs] at he
theorem each_cons {env : PySem.Env} (h : notStar e = true) (es : List Expr) : assignEach (e :: es) env = (false, assign e env) :: assignEach es env := by
  cases e <;> first | rfl | cases h
theorem s_tgc {g : Tg} {gs : List Tg} (ns : notStar e = true) (h1 : PG X e (gT G g)) (h2 : PGs X es (gTs G gs)) : PGs X (e :: es) (gTs G (g :: gs)) := by
  refine PGs.imp (pgs_cons h1 h2 (by rw [each_cons ns]; rfl)) fun vs σ H Q ⟨ts, env, ν, μ, e, r, d, he, q⟩ => ?_
  cases ts with
  | nil => simp [setTgs] at he
  | cons t ts =>
    simp only [Dns] at d
    obtain ⟨v, vr, rfl, d1, d2⟩ := d
    simp only [setTgs] at he
    cases e1 : setTg g t env with
    | none => rw [e1] at he; cases he
    | some e0 =>
      rw [e1] at he
      refine ⟨v, vr, rfl, t, env, ν, μ, e0, r, d1, e1, fun σ1 r1 o1 => ⟨ts, e0, ν, μ, e, r1, d2, he, fun σ2 r2 o2 => q σ2 r2 fun vs hvs => ?_⟩⟩
      rw [o2 vs fun i hi => hvs i (by simp [Tg.slotss, hi]), o1 vs fun i hi => hvs i (by simp [Tg.slotss, hi])]
theorem setTgs_len : ∀ {gs : List Tg} {ts : List Tv} {env e : Env}, setTgs gs ts env = some e → ts.length = gs.length
  | [], [], _, _, _ => rfl
  | [], _ :: _, _, _, h => by simp [setTgs] at h
  | _ :: _, [], _, _, h => by simp [setTgs] at h
  | g :: gs, t :: ts, env, e, h => by
    simp only [setTgs] at h
    split at h
    · rw [List.length_cons, List.length_cons, setTgs_len h]
    · cases h
theorem each_len {env : PySem.Env} : ∀ {es : List Expr}, es.all notStar = true → (assignEach es env).length = es.length ∧ (assignEach es env).findIdx? (·.1) = none
  | [], _ => ⟨rfl, rfl⟩
  | e :: es, h => by
    have h' : notStar e = true ∧ es.all notStar = true := by simpa using h
    obtain ⟨q1, q2⟩ := each_len (env := env) h'.2
    rw [each_cons h'.1]
    refine ⟨by rw [List.length_cons, List.length_cons, q1], ?_⟩
    rw [List.findIdx?_cons]
    simp [q2]
theorem s_tgt {gs : List Tg} {kk : Nat} (g : Gd G n N sc W X) (ns : es.all notStar = true) (hl : es.length = gs.length) (h : PGs X es (gTs G gs)) : PG X (.Tuple es kk pos) (gT G (.tup gs)) := by
  obtain ⟨q1, q2⟩ := each_len (env := X.env) ns
  refine PG.imp (pg_tup g.calm h q1 q2) fun v σ H Q ⟨t, env, ν, μ, e, r, d, he, q⟩ => ?_
  cases t with
  | tup us =>
    simp only [setTg] at he
    simp only [Dn] at d
    obtain ⟨a, vs, rfl, fz, d⟩ := d
    refine ⟨a, vs, rfl, by rw [g.iw.K]; exact fz.sq, ?_, us, env, ν, μ, e, r, d, he, q⟩
    rw [← d.length, setTgs_len he, hl]
  | _ => simp [setTg] at he
/-! ### what is gone through -/
structure ItR (G : Wd) (ν0 μ0 : List Addr) (H0 : Hp) (ts : List Tv) (w : List (Nat × List Tv)) (J : It) : Prop where
  go : ∀ (i : Nat) (ν μ : List Addr) (S : Sto) (H : Hp), Al G ν0 μ0 H0 ν μ S H → stays w S = true → i < ts.length → J.go i H ∧ ∀ x H', J.yld i H x H' → ∃ t, ts[i]? = some t ∧ Af G ν μ H ν μ S H' ∧ Dn G ν μ H' t x ∧ ∀ a o, H a = some o → H' a = some o
  stop : ∀ (i : Nat) (ν μ : List Addr) (S : Sto) (H : Hp), Al G ν0 μ0 H0 ν μ S H → stays w S = true → i = ts.length → J.stop i H
def tI (G : Wd) (W : WX) (f : Env → M (List Tv × List (Nat × List Tv))) : TI := fun σ H R => ∃ env S ν μ, Rl G env S ν μ σ H ∧ Fin G (Wk W σ) (fun ν μ H q J => ItR G ν μ H q.1 q.2 J) ν μ H (f env S) R
/-! ### comprehensions -/
theorem Fin.calm {α β γ δ : Type} {νb μb : List Addr} {Hb : Hp} {Wc W0 : Value → Option Addr → Hp → Prop} {D : List Addr → List Addr → Hp → α → β → Prop} {D' : List Addr → List Addr → Hp → γ → δ → Prop} {m : M α} {kk : α → M γ} {Q : δ → Hp → Prop}
    (z : Fin G Wc D' νb μb Hb ((calmM m S).bnd kk) Q) : Fin G W0 D ν μ H (m S) fun v H1 => ∃ t S1 ν1 μ1, Af G ν μ H ν1 μ1 S1 H1 ∧ D ν1 μ1 H1 t v ∧ Fin G Wc D' νb μb Hb (kk t S1) Q := by
  unfold calmM at z
  cases e : m S with
  | ok t S1 =>
    rw [e] at z
    exact fun v H1 ν1 μ1 a d => ⟨t, S1, ν1, μ1, a, d, z⟩
  | ex c fs S1 => rw [e] at z; exact z.elim
  | bad => rw [e] at z; exact z.elim
theorem bnd_bnd {α β γ : Type} (r : Rs α) (f : α → M β) (g : β → M γ) : (r.bnd f).bnd g = r.bnd fun x S => (f x S).bnd g := by
  cases r <;> rfl
theorem rs_ret {α : Type} (r : Rs α) : (r.bnd fun x => ret x) = r := by cases r <;> rfl
/-- something that is no place of the store is written -/
theorem StR.side {q : Addr} {o : HO} (s : StR G ν μ S H) (hq : q ∈ ν) (hm : q ∉ μ) : StR G ν μ S (upd H q o) := by
  have k : Kp ν H ν (upd H q o) := .write hq
  refine ⟨s.len, s.nd, s.sub, fun a ha => ?_, fun m u e => ?_⟩
  · by_cases z : a = q
    · rw [z]; exact ⟨o, upd_same⟩
    · obtain ⟨o', e⟩ := s.trk a ha
      exact ⟨o', by rw [upd_ne z]; exact e⟩
  · obtain ⟨a, e1, r⟩ := s.ob m u e
    exact ⟨a, e1, r.kp k (List.prefix_refl _) (upd_ne fun z => hm (by rw [← z]; exact List.mem_of_getElem? e1))⟩
theorem Af.side {q : Addr} {o : HO} (a : Af G ν μ H ν1 μ1 S1 H1) (hq : q ∈ ν1) (hm : q ∉ μ1) (hn : H q = none) : Af G ν μ H ν1 μ1 S1 (upd H1 q o) :=
  ⟨⟨a.kp.sub, a.kp.new, fun b u h e => by rw [upd_ne (ne_of_none e hn)]; exact a.kp.keep b u h e⟩, a.pre, a.st.side hq hm, a.nm, fun b u h e => by rw [upd_ne (ne_of_none e hn)]; exact a.lk b u h e⟩
/-- what is no place stands as it is -/
theorem Af.still {q : Addr} {o : HO} (a : Af G ν μ H ν1 μ1 S1 H1) (hm : q ∉ μ) (e : H q = some o) : q ∉ μ1 ∧ H1 q = some o :=
  ⟨fun z => (a.nm q z).elim hm fun w => absurd (e.symm.trans w) (fun z => nomatch z), a.lk q o hm e⟩
theorem comp_imp {own : List Nat} {tg : Tg} {fi : Env → M (List Tv × List (Nat × List Tv))} {fc : Env → M Bool} {fe : Env → M Tv} {σ : L2.St} {Q : VK} (ho : ∀ i ∈ tg.slots, i ∈ own)
    (z : tL G W (fun env => bnd (fi env) fun q => if q.1.length ≤ lim then compL q.2 tg (wipeE env own) fc fe q.1 else bad) σ H Q) : tLc (tI G W fi) (gT G tg) (tT G W0 fc) (tE G W0 fe) own σ H Q := by
  obtain ⟨env, S, ν, μ, r, z⟩ := z
  refine ⟨env, S, ν, μ, r, (Fin.bnd (D := fun ν μ H q J => ItR G ν μ H q.1 q.2 J) z).mono fun J H1 ⟨q, S1, ν1, μ1, a1, it, z1⟩ D hD => ?_⟩
  obtain ⟨ts, w⟩ := q
  simp only at it z1
  split at z1
  case isFalse => exact z1.elim
  rename_i hlim
  obtain ⟨n1, n2, n3⟩ := new_none a1.st a1.kp hD
  have a2 := Af.place0 (vs := []) a1.st hD
  have nD : D ∉ μ1 := fun m => n1 (a1.st.sub D m)
  refine ⟨fun i m H4 => m = ts.length - i ∧ i ≤ ts.length ∧ ∃ S4 ν4 μ4 acc accv, Af G ν1 μ1 H1 ν4 μ4 S4 H4 ∧ D ∈ ν4 ∧ D ∉ μ4 ∧ H4 D = some (.lst accv) ∧ Dns G ν4 μ4 H4 acc accv ∧ acc.length ≤ i ∧
      Fin G (Wk W σ) (fun ν' μ' H' (ts : List Tv) (v : V) => ∃ p vs, v = .ref p ∧ p ∈ ν' ∧ p ∉ μ' ∧ p ∉ ν ∧ H p = none ∧ H' p = some (.lst vs) ∧ Dns G ν' μ' H' ts vs) ν1 μ1 H1 ((compL w tg (wipeE env own) fc fe (ts.drop i) S4).bnd fun ys => ret (acc ++ ys)) Q, ?_, ?_⟩
  · refine ⟨ts.length, by simp, Nat.zero_le _, S1, _, _, [], [], a2, List.mem_cons_self, nD, upd_same, by simp only [Dns], Nat.le_refl _, ?_⟩
    have e : (fun ys : List Tv => ret (([] : List Tv) ++ ys)) = fun ys => ret ys := rfl
    rw [e, rs_ret]
    exact z1
  rintro i m H4 ⟨rfl, hi, S4, ν4, μ4, acc, accv, a4, m4, m4', hD4, d4, hl4, z4⟩
  by_cases hlt : i < ts.length
  · have e1 : ts.drop i = ts[i] :: ts.drop (i + 1) := List.drop_eq_getElem_cons hlt
    rw [e1] at z4
    simp only [compL] at z4
    split at z4
    case isFalse => exact z4.elim
    rename_i hst
    obtain ⟨hgo, hy⟩ := it.go i ν4 μ4 S4 H4 a4.al hst hlt
    refine .inr ⟨hgo, fun H' => ∃ m', m' < ts.length - i ∧ (m' = ts.length - (i + 1) ∧ i + 1 ≤ ts.length ∧ ∃ S4 ν4 μ4 acc accv, Af G ν1 μ1 H1 ν4 μ4 S4 H' ∧ D ∈ ν4 ∧ D ∉ μ4 ∧ H' D = some (.lst accv) ∧ Dns G ν4 μ4 H' acc accv ∧ acc.length ≤ i + 1 ∧
      Fin G (Wk W σ) (fun ν' μ' H' (ts : List Tv) (v : V) => ∃ p vs, v = .ref p ∧ p ∈ ν' ∧ p ∉ μ' ∧ p ∉ ν ∧ H p = none ∧ H' p = some (.lst vs) ∧ Dns G ν' μ' H' ts vs) ν1 μ1 H1 ((compL w tg (wipeE env own) fc fe (ts.drop (i + 1)) S4).bnd fun ys => ret (acc ++ ys)) Q), fun H' h => h, fun x H5 y => ?_⟩
    obtain ⟨t, et, a5, d5, keep⟩ := hy x H5 y
    rw [List.getElem?_eq_getElem hlt] at et
    cases et
    cases es : setTg tg ts[i] (wipeE env own) with
    | none => rw [es] at z4; exact z4.elim
    | some e =>
      rw [es] at z4
      simp only [bnd, bnd_bnd] at z4
      refine ⟨ts[i], wipeE env own, ν4, μ4, e, ((((r.en.af a1).af a4).af a5).wipe own), d5, es, fun σ2 r2 o2 => ⟨(o2 own ho).trans (wipe_wipe fun _ h => h), ?_⟩⟩
      refine ⟨e, S4, ν4, μ4, ⟨a5.st, r2⟩, (Fin.calm (D := DB) z4).mono fun b H6 ⟨b', S6, ν6, μ6, a6, eb, z6⟩ => ?_⟩
      have eb' : b' = b := eb
      subst eb'
      obtain ⟨k6, h6⟩ := a6.still m4' (keep D _ hD4)
      cases b' with
      | false =>
        refine iteF ⟨_, by omega, rfl, hlt, S6, ν6, μ6, acc, accv, (a4.trans a5).trans a6, a6.kp.sub D m4, k6, h6, (d4.af a5).af a6, by omega, ?_⟩
        exact z6
      | true =>
        simp only [if_true, bnd, bnd_bnd] at z6
        refine iteT ⟨e, S6, ν6, μ6, ⟨a6.st, r2.af a6⟩, (Fin.calm (D := DV G) z6).mono fun y H7 ⟨ty, S7, ν7, μ7, a7, dy, z7⟩ => ?_⟩
        obtain ⟨k7, h7⟩ := a7.still k6 h6
        have m7 := a7.kp.sub D (a6.kp.sub D m4)
        have d7 : Dns G ν7 μ7 H7 acc accv := ((d4.af a5).af a6).af a7
        have al : accv.length ≤ i := by rw [← d4.length]; exact hl4
        refine ⟨accv, h7, ?_, _, by omega, rfl, hlt, S7, ν7, μ7, acc ++ [ty], accv ++ [y], Af.side (((a4.trans a5).trans a6).trans a7) m7 k7 hD, m7, k7, upd_same, (d7.append (Dns.one dy)).write m7, by rw [List.length_append]; exact Nat.succ_le_succ hl4, ?_⟩
        · have := lim_le (n := i + 1) (by omega)
          omega
        · have ew : ∀ ys : List Tv, (acc ++ [ty]) ++ ys = acc ++ (ty :: ys) := fun ys => by simp
          have ef : (fun ys : List Tv => ret (acc ++ [ty] ++ ys)) = fun ys => ret (acc ++ (ty :: ys)) := by
            funext ys; rw [ew]
          rw [ef]
          exact z7
  · have e : i = ts.length := by omega
    subst e
    rw [List.drop_length] at z4
    simp only [compL] at z4
    split at z4
    case isFalse => exact z4.elim
    rename_i hst
    refine .inl ⟨it.stop _ _ _ _ _ a4.al hst rfl, ?_⟩
    simp only [Rs.bnd] at z4
    rw [List.append_nil] at z4
    exact z4 (.ref D) H4 ν4 μ4 a4 ⟨D, accv, rfl, m4, m4', n2, n3, hD4, d4⟩
end
end Mp
namespace Mp
open PySem L2 PySem.Spec
/-! ### lists and tuples alike: k says which (a list, a tuple) -/
def SqK (k : Bool) (K : PySem.W.Frag) (H : Hp) (a : Addr) (xs : List V) : Prop := match k with
  | true => SqL K H a xs
  | false => SqT K H a xs
def ItK (k : Bool) (h : Heap) (it a : Addr) (i : Nat) : Prop := match k with
  | true => h.IsListIter it a i
  | false => h.IsTupleIter it a i
def HasK (k : Bool) (h : Heap) (a : Addr) (its : Array Value) : Prop := match k with
  | true => h.IsList a its
  | false => h.IsTuple a its
def itO (k : Bool) (a : Addr) : Obj := match k with
  | true => { cls := .type "list_iterator", data := .fields #[.ref a, .int 0 0] }
  | false => { cls := .type "tuple_iterator", data := .fields #[.ref a, .int 0 0] }
section
variable {k k2 : Bool} {X : Cx} {pins : List (Addr × Obj)} {σ : L2.St} {H : Hp} {s : Shared} {a b it : Addr} {xs ys : List V} {h h' : Heap} {i : Nat} {its : Array Value}
theorem SqK.get (I : Inv X pins σ H s) (q : SqK k X.K H a xs) : ∃ us : List Value, Vals xs us ∧ HasK k s.heap a us.toArray := by
  cases k with
  | true => obtain ⟨us, rv, z, _⟩ := I.list q; exact ⟨us, rv, z.isList⟩
  | false => obtain ⟨us, rv, z, _⟩ := I.tuple q; exact ⟨us, rv, z⟩
theorem SqK.same (I : Inv X pins σ H s) (q : SqK k X.K H a xs) (q' : SqK k X.K H a ys) : xs = ys := by
  cases k with
  | true => exact I.list_inj q q'
  | false => exact I.tuple_inj q q'
theorem ItK.at' (z : ItK k h it a i) (f : ∀ o, h.get? it = some o → h'.get? it = some o) : ItK k h' it a i := by
  cases k with
  | true => exact Heap.IsListIter.at z f
  | false => exact Heap.IsTupleIter.at z f
theorem ItK.obj (z : ItK k h it a i) : ∃ o, h.get? it = some o ∧ (∃ c, o.cls = .type c ∧ (c = "list_iterator" ∨ c = "tuple_iterator")) ∧ ∀ v, o.data ≠ .cell v := by
  cases k with
  | true => obtain ⟨o, e, c, d⟩ := z; exact ⟨o, e, ⟨_, c, .inl rfl⟩, fun v q => by rw [d] at q; cases q⟩
  | false => obtain ⟨o, e, c, d⟩ := z; exact ⟨o, e, ⟨_, c, .inr rfl⟩, fun v q => by rw [d] at q; cases q⟩
theorem HasK.obj (z : HasK k h a its) : ∃ o, h.get? a = some o ∧ ∃ c, o.cls = .type c ∧ (c = "list" ∨ c = "tuple") := by
  cases k with
  | true => obtain ⟨o, e, c, _⟩ := z; exact ⟨o, e, _, c, .inl rfl⟩
  | false => obtain ⟨o, e, c, _⟩ := z; exact ⟨o, e, _, c, .inr rfl⟩
theorem HasK.ne_it (z : HasK k h a its) (w : ItK k2 h it b i) : a ≠ it := fun e => by
  subst e
  obtain ⟨o, e1, c, e2, e3⟩ := z.obj
  obtain ⟨o', e4, ⟨c', e5, e6⟩, _⟩ := w.obj
  rw [e1] at e4
  cases e4
  rw [e2] at e5
  cases e5
  rcases e3 with q | q <;> rcases e6 with r | r <;> rw [q] at r <;> exact absurd r (by decide)
theorem drawsK {prog : Program} {w : World} {A : Around} (hh : A.handled = none) (hne : a ≠ it) : Draws prog w A it [it, a] its.size (fun i v => its[i]? = some v) (fun i h => ItK k h it a i ∧ HasK k h a its) := by
  cases k with
  | true => exact Draws.list hh it a hne its
  | false => exact Draws.tuple hh it a hne its
theorem beginsK : Begins (.ref a) (itO k a) (fun h => HasK k h a its) := by
  cases k with
  | true => exact begins_list a its
  | false => exact begins_tuple a its
theorem itK_of (e : h.get? it = some (itO k a)) : ItK k h it a 0 := by
  cases k with
  | true => exact ⟨_, e, rfl, rfl⟩
  | false => exact ⟨_, e, rfl, rfl⟩
end
/-! ### a sequence -/
section
variable {X : Cx} {pins : List (Addr × Obj)} {σ : L2.St} {H : Hp} {s : Shared} {a : Addr} {tg e e2 : Expr} {E : Value → Shared → Prop} {R : It → Hp → Prop}
theorem begin_l {xs : List V} (I : Inv X pins σ H s) (q : SqL X.K H a xs) (r : R (Itl X.K a) H) : wpAny (model X.prog X.w) X.A (pyIter (.ref a)) (PIE X pins σ tg R) E s := by
  obtain ⟨us, _, z, _⟩ := I.list q
  refine wpAny_pyIter_list z.isList ⟨s.heap.objs.size, [s.heap.objs.size], _, Itl X.K a, H, rfl, I.kept (t' := s.toks) (fun _ _ w => Heap.get?_push_of_some _ w), turn_list a _, ⟨_, Heap.get?_push_size _ rfl, rfl, rfl⟩, ?_, r⟩
  intro b hb
  rw [List.mem_singleton.mp hb]
  exact I.fpOk (Nat.le_refl _) I.fresh
theorem begin_t {xs : List V} (I : Inv X pins σ H s) (q : SqT X.K H a xs) (r : R (Itt X.K a) H) : wpAny (model X.prog X.w) X.A (pyIter (.ref a)) (PIE X pins σ tg R) E s := by
  obtain ⟨us, _, z, _⟩ := I.tuple q
  refine wpAny_pyIter_tuple (items := us.toArray) z ⟨s.heap.objs.size, [s.heap.objs.size], _, Itt X.K a, H, rfl, I.kept (t' := s.toks) (fun _ _ w => Heap.get?_push_of_some _ w), turn_tuple a _, ⟨_, Heap.get?_push_size _ rfl, rfl, rfl⟩, ?_, r⟩
  intro b hb
  rw [List.mem_singleton.mp hb]
  exact I.fpOk (Nat.le_refl _) I.fresh
def iAny (K : PySem.W.Frag) (te : TE) : TI := fun σ H R => te σ H fun x H1 => ∃ a xs, x = .ref a ∧ ((SqL K H1 a xs ∧ R (Itl K a) H1) ∨ (SqT K H1 a xs ∧ R (Itt K a) H1))
theorem pi_any {te : TE} (he : PE X e te) : PI X tg e (iAny X.K te) := by
  constructor
  intro pins s σ H R I z
  refine thn (he.run pins s σ H _ I z) fun u s2 ⟨x, H2, I2, rx, a, xs, ex, q⟩ => ?_
  subst ex
  cases rx
  rcases q with ⟨q, r⟩ | ⟨q, r⟩
  · exact begin_l I2 q r
  · exact begin_t I2 q r
/-! ### enumerate -/
def IEn (k : Bool) (K : PySem.W.Frag) (a : Addr) : It :=
  ⟨fun i H => ∃ xs x, SqK k K H a xs ∧ xs[i]? = some x, fun i H v H' => ∃ (T : Addr) (x : V), v = .ref T ∧ H T = none ∧ H' = upd H T (.tup [.int (i : Nat), x]) ∧ ∀ xs, SqK k K H a xs → xs[i]? = some x,
    fun i H => ∃ xs, SqK k K H a xs ∧ xs.length = i⟩
theorem turn_en {P : Program} {w : World} {K : PySem.W.Frag} {k : Bool} {els : List Expr} {kk : Nat} {tp : Pos} (a en it : Addr) :
    Turn P w K (.Tuple els kk tp) (IEn k K a) [en, it] en (fun i h => (∃ old, IsEnum h en it ((i : Nat) : Int) old) ∧ ItK k h it a i ∧ en ≠ it) := by
  have two : ∀ {b : Addr}, b ∈ [en, it] → b = en ∨ b = it := fun hb => by simpa using hb
  constructor
  case mem => simp
  case obj =>
    rintro i h ⟨⟨old, he⟩, hi, _⟩ b hb
    rcases two hb with z | z
    · subst z; exact ⟨_, he, fun v q => nomatch q⟩
    · subst z; obtain ⟨o, e1, _, e2⟩ := hi.obj; exact ⟨o, e1, e2⟩
  case keep =>
    rintro i h h' ⟨⟨old, he⟩, hi, hn⟩ f
    exact ⟨⟨old, f en (by simp) _ he⟩, hi.at' (f it (by simp)), hn⟩
  case item =>
    rintro X rfl rfl rfl calm i pins s σ H E I hf ⟨⟨old, he⟩, hi, hn⟩ ⟨xs, x, hq, hx⟩
    obtain ⟨us, rv, hk⟩ := SqK.get I hq
    have ai := hk.ne_it hi
    have ea : en ≠ a := fun z => by
      subst z
      obtain ⟨o, e1, c, e2, e3⟩ := hk.obj
      have e4 : s.heap.get? en = some _ := he
      rw [e4] at e1
      cases e1
      cases e2
      rcases e3 with z | z <;> exact absurd z (by decide)
    have il : i < us.toArray.size := by
      have := (List.getElem?_eq_some_iff.mp hx).1
      rw [List.size_toArray, ← rv.length]; exact this
    refine wpAny_pyNext_enum_itemC (drawsK (its := us.toArray) (by exact I.ok.hd calm) ai) he ⟨hi, hk⟩ il hn (by simp [hn, ea]) fun u h' tk hu ho hi' hT hsz hkp => ?_
    have el : en < s.heap.objs.size := Heap.lt_size he
    refine ⟨_, rfl, wpAny_letOwnedTupleGo_enum (s := { s with heap := h', toks := tk + 1 }) ho fun h2 he2 sb => ?_⟩
    obtain ⟨u', hu', ru⟩ := rv.get hx
    have eu : u' = u := by
      have : us[i]? = some u := by simpa using hu
      rw [hu'] at this
      exact Option.some.inj this
    subst eu
    have hT2 := (sb.2 _ (Nat.ne_of_gt el)).trans hT
    have new : ObjOk X.prog X.w (upd H s.heap.objs.size (.tup [.int (i : Nat), x])) h2 s.heap.objs.size (.tup [.int (i : Nat), x]) :=
      ⟨show 2 ≤ sizeLine by decide, [.int i tk, u'], .cons ⟨tk, rfl⟩ (.cons ru .nil), ⟨_, hT2, rfl, _, rfl⟩⟩
    have I2 : Inv X pins σ (upd H s.heap.objs.size (.tup [.int (i : Nat), x])) { s with heap := h2, toks := tk + 1 } :=
      I.turnedNew (ch := [en, it]) (fun b ob hb q => by
        have n1 : b ≠ en := fun z => hb (by simp [z])
        have n2 : b ≠ it := fun z => hb (by simp [z])
        exact (sb.2 b n1).trans (hkp b ob n1 n2 q)) hf (Nat.le_refl _) new
    refine ⟨.ref s.heap.objs.size, _, I2, rfl, ⟨_, x, rfl, I.fresh, rfl, fun ys hy => by rw [SqK.same I hy hq]; exact hx⟩, ⟨⟨u', ?_⟩, ?_, hn⟩, fun b hb => ?_⟩
    · have e1 : ((i + 1 : Nat) : Int) = (i : Int) + 1 := by omega
      rw [e1]
      exact he2
    · exact hi'.1.at' fun o q => (sb.2 it (Ne.symm hn)).trans q
    · have bl : b < s.heap.objs.size := by
        rcases two hb with z | z
        · rw [z]; exact el
        · rw [z]; obtain ⟨o, e1, _⟩ := hi.obj; exact Heap.lt_size e1
      rw [upd_ne (Nat.ne_of_lt bl)]
      exact (hf b hb).1
  case done =>
    rintro X rfl rfl rfl calm i pins s σ H E I hf ⟨⟨old, he⟩, hi, hn⟩ ⟨xs, hq, hx⟩
    obtain ⟨us, rv, hk⟩ := SqK.get I hq
    have ei : i = us.toArray.size := by rw [List.size_toArray, ← rv.length, hx]
    subst ei
    refine wpAny_pyNext_enum_endD (drawsK (its := us.toArray) (by exact I.ok.hd calm) (hk.ne_it hi)) he ⟨hi, hk⟩ fun h' hb => ⟨rfl, ?_⟩
    obtain ⟨f0, f1, f2, f3, f4, f5⟩ := hf it (by simp)
    exact I.turned (t' := s.toks) (fun b o hn q => hb b o hn q) f0 f1 f3 f4 f5
  case self =>
    rintro A i s Q E ⟨⟨old, he⟩, _⟩ q
    exact wpAny_pyIter_enum he q
def iEn (K : PySem.W.Frag) (te : TE) : TI := fun σ H R => te σ H fun x H1 => ∃ k a xs, x = .ref a ∧ SqK k K H1 a xs ∧ R (IEn k K a) H1
theorem enumMeets {v : Value} {o : Obj} {Hh : Heap → Prop} (B : Begins v o Hh) :
    Meets (Builtin.«enumerate.__new__» ⟨[.type "enumerate", v], []⟩) (fun _ R s => Hh s.heap ∧
      R (.ok (.ret (.ref (s.heap.push o).objs.size))) { s with heap := (s.heap.push o).push { cls := .type "enumerate", data := .fields #[.none, .bool false, .ref s.heap.objs.size, rawInt 0, .none, .none] } }) :=
  .of_wp fun prog w A R s h => by
    obtain ⟨hp, g, d, tk, os⟩ := s
    obtain ⟨h1, h⟩ := h
    have hsub := sub_enumerate
    have step : ∀ {A' : Around} {E : Value → Shared → Prop} {Q : Value → Shared → Prop}, Q (.ref hp.objs.size) ⟨hp.push o, g, d, tk, os⟩ → wpAny (model prog w) A' (pyIter v) Q E ⟨hp, g, d, tk, os⟩ :=
      fun q => B.iter prog w _ _ ⟨hp, g, d, tk, os⟩ _ h1 q
    wp_walk using step
    refine wpAny_stack_any fun st => wpAny_pure ?_
    split
    · rename_i c _ _ _ _ _
      cases (c == Value.type "enumerate") <;> (wp_walk using step; exact ⟨_, rfl, h⟩)
    · wp_walk using step
      exact ⟨_, rfl, h⟩
theorem enumBegins {A : Around} {v : Value} {o : Obj} {Hh : Heap → Prop} {Q : Value → Shared → Prop} {prog : Program} {w : World} (B : Begins v o Hh) (h1 : Hh s.heap)
    (h : ∀ h', IsEnum h' (s.heap.objs.size + 1) s.heap.objs.size 0 .none → h'.get? s.heap.objs.size = some o → (∀ b u, s.heap.get? b = some u → h'.get? b = some u) → Q (.ref (s.heap.objs.size + 1)) { s with heap := h' }) :
    wpAny (model prog w) A (call (.type "enumerate") [v]) Q E s := by
  refine callType_new F.called_enumerate (by decide) (F.typeCall_enumerate_1 _) (F.newCall_enumerate_1 _) (fun obj => F.args_object_init_2 obj _) F.entry_enumerate_new (enumMeets B) ⟨h1, ?_⟩
  have z1 : (s.heap.push o).objs.size = s.heap.objs.size + 1 := Heap.size_push ..
  show _ ∧ _
  rw [z1]
  have en : IsEnum ((s.heap.push o).push { cls := .type "enumerate", data := .fields #[.none, .bool false, .ref s.heap.objs.size, rawInt 0, .none, .none] }) (s.heap.objs.size + 1) s.heap.objs.size 0 .none := by
    have z2 := Heap.get?_push_size (s.heap.push o) (o := { cls := .type "enumerate", data := .fields #[.none, .bool false, .ref s.heap.objs.size, rawInt 0, .none, .none] }) rfl
    rw [z1] at z2
    exact z2
  exact ⟨⟨_, en, rfl⟩, h _ en (Heap.get?_push_of_some _ (Heap.get?_push_size _ B.free)) fun b u q => Heap.get?_push_of_some _ (Heap.get?_push_of_some _ q)⟩
theorem pi_en {te : TE} {x1 p1 : Pos} {els : List Expr} {kk : Nat} {tp : Pos} (hg : Gl X "enumerate") (hm : X.mg "enumerate" = none) (ns : notStar e = true) (he : PE X e te) :
    PI X (.Tuple els kk tp) (.Call (.Name "enumerate" x1) [e] [] p1) (iEn X.K te) := by
  constructor
  intro pins s σ H R I z
  have hs : starEach [e] X.env = [(false, eval e X.env)] := star_cons ns []
  have hw := thn (he.run pins s σ H _ I z) fun u s2 z2 => z2
  refine PyProof.Rows.Call_ (ld_blt I hg hm PyProof.Rows.boot_enumerate (PyProof.Rows.callWith_type1 (PyProof.Rows.args_cons (thn hw fun u s2 z2 => PyProof.Rows.args_nil ?_) hs) hs rfl))
  obtain ⟨x, H2, I2, rx, k, a, xs, ex, hq, r⟩ := z2
  subst ex
  cases rx
  obtain ⟨us, rv, hk⟩ := SqK.get I2 hq
  refine enumBegins (beginsK (its := us.toArray)) hk fun h' en ho kp => wpAny_pyIter_enum en ?_
  have I3 : Inv X pins σ H2 { s2 with heap := h' } := I2.kept (t' := s2.toks) kp
  refine ⟨s2.heap.objs.size + 1, [s2.heap.objs.size + 1, s2.heap.objs.size], _, _, H2, rfl, I3, turn_en a (s2.heap.objs.size + 1) s2.heap.objs.size, ⟨⟨.none, en⟩, itK_of ho, Nat.succ_ne_self _⟩, fun b hb => ?_, r⟩
  have le : s2.heap.objs.size ≤ b := by
    have : b = s2.heap.objs.size + 1 ∨ b = s2.heap.objs.size := by simpa using hb
    rcases this with w | w
    · rw [w]; exact Nat.le_succ _
    · rw [w]; exact Nat.le_refl _
  exact I2.fpOk le (I2.hok.fresh le)
/-! ### zip -/
def IZp (k k2 : Bool) (K : PySem.W.Frag) (a b : Addr) : It :=
  ⟨fun i H => ∃ (xs ys : List V) (x y : V), SqK k K H a xs ∧ SqK k2 K H b ys ∧ xs[i]? = some x ∧ ys[i]? = some y,
    fun i H v H' => ∃ (T : Addr) (x y : V), v = .ref T ∧ H T = none ∧ H' = upd H T (.tup [x, y]) ∧ (∀ xs, SqK k K H a xs → xs[i]? = some x) ∧ ∀ ys, SqK k2 K H b ys → ys[i]? = some y,
    fun i H => ∃ xs ys : List V, SqK k K H a xs ∧ SqK k2 K H b ys ∧ i ≤ xs.length ∧ i ≤ ys.length ∧ (i = xs.length ∨ i = ys.length)⟩
theorem zsep {z TI TO i1 i2 a b : Addr} (D : ZipApart z TI TO i1 i2 a b) : ZipSep2 z TI TO i1 i2 [i1, a] [i2, b] where
  TIz := D.TIz
  TOz := D.TOz
  TITO := D.TITO
  TIi1 := D.TIi1
  mem1 := by simp
  zf1 := by simp [D.i1z.symm, D.l1z.symm]
  Tf1 := by simp [D.TOi1, D.l1TO.symm]
  TIi2 := D.TIi2
  mem2 := by simp
  zf2 := by simp [D.i2z.symm, D.l2z.symm]
  Tf2 := by simp [D.TOi2, D.l2TO.symm]
  sep1_2 := by simp [D.i12, D.l2i1.symm]
  sep2_1 := by simp [D.i12.symm, D.l1i2.symm]
theorem turn_zp {P : Program} {w : World} {K : PySem.W.Frag} {k k2 : Bool} {els : List Expr} {kk : Nat} {tp : Pos} {a b z TI TO i1 i2 : Addr} (D : ZipApart z TI TO i1 i2 a b) :
    Turn P w K (.Tuple els kk tp) (IZp k k2 K a b) [z, TI, TO, i1, i2] z (fun i h => IsZip h z TI TO .none ∧ IsTupOf2 h TI (.ref i1) (.ref i2) ∧ (∃ x y, IsTupOf2 h TO x y) ∧ ItK k h i1 a i ∧ ItK k2 h i2 b i) := by
  have five : ∀ {c : Addr}, c ∈ [z, TI, TO, i1, i2] → c = z ∨ c = TI ∨ c = TO ∨ c = i1 ∨ c = i2 := fun hc => by simpa using hc
  constructor
  case mem => simp
  case obj =>
    rintro i h ⟨hz, hTI, ⟨x, y, hTO⟩, h1, h2⟩ c hc
    obtain ⟨o1, e1, _, d1⟩ := h1.obj
    obtain ⟨o2, e2, _, d2⟩ := h2.obj
    rcases five hc with rfl | rfl | rfl | rfl | rfl
    · exact ⟨_, hz, fun v q => nomatch q⟩
    · exact ⟨_, hTI, fun v q => nomatch q⟩
    · exact ⟨_, hTO, fun v q => nomatch q⟩
    · exact ⟨o1, e1, d1⟩
    · exact ⟨o2, e2, d2⟩
  case keep =>
    rintro i h h' ⟨hz, hTI, ⟨x, y, hTO⟩, h1, h2⟩ f
    exact ⟨f z (by simp) _ hz, f TI (by simp) _ hTI, ⟨x, y, f TO (by simp) _ hTO⟩, h1.at' (f i1 (by simp)), h2.at' (f i2 (by simp))⟩
  case item =>
    rintro X rfl rfl rfl calm i pins s σ H E I hf ⟨hz, hTI, ⟨x0, y0, hTO⟩, h1, h2⟩ ⟨xs, ys, x, y, hqx, hqy, hx, hy⟩
    obtain ⟨us, rv, k1⟩ := SqK.get I hqx
    obtain ⟨us2, rv2, kb⟩ := SqK.get I hqy
    obtain ⟨u, hu, ru⟩ := rv.get hx
    obtain ⟨u2, hu2, ru2⟩ := rv2.get hy
    have zl : z < s.heap.objs.size := Heap.lt_size hz
    have L1 : i < us.toArray.size := by
      have := (List.getElem?_eq_some_iff.mp hu).1
      simpa using this
    have L2' : i < us2.toArray.size := by
      have := (List.getElem?_eq_some_iff.mp hu2).1
      simpa using this
    refine wpAny_pyNext_zipD2_item (zsep D) (drawsK (its := us.toArray) (by exact I.ok.hd calm) (k1.ne_it h1)) (drawsK (its := us2.toArray) (by exact I.ok.hd calm) (kb.ne_it h2)) hz hTI hTO ⟨h1, k1⟩ ⟨h2, kb⟩ L1 L2' fun v1 v2 h' tk q1 q2 z' TO' h1' h2' hT hsz hk => ?_
    have ev1 : v1 = u := by
      have : us[i]? = some v1 := by simpa using q1
      rw [hu] at this
      exact (Option.some.inj this).symm
    have ev2 : v2 = u2 := by
      have : us2[i]? = some v2 := by simpa using q2
      rw [hu2] at this
      exact (Option.some.inj this).symm
    subst ev1 ev2
    refine ⟨_, rfl, wpAny_letOwnedTupleGo_zip (s := { s with heap := h', toks := tk }) z' fun h3 z3 sb => ?_⟩
    have hT2 := (sb.2 _ (Nat.ne_of_gt zl)).trans hT
    have new : ObjOk X.prog X.w (upd H s.heap.objs.size (.tup [x, y])) h3 s.heap.objs.size (.tup [x, y]) :=
      ⟨show 2 ≤ sizeLine by decide, [v1, v2], .cons ru (.cons ru2 .nil), ⟨_, hT2, rfl, _, rfl⟩⟩
    have I2 : Inv X pins σ (upd H s.heap.objs.size (.tup [x, y])) { s with heap := h3, toks := tk } := by
      refine I.turnedNew (ch := [z, TI, TO, i1, i2]) (fun c o hb q => ?_) hf (Nat.le_refl _) new
      have n1 : c ≠ z := fun w => hb (by simp [w])
      have n2 : c ≠ TO := fun w => hb (by simp [w])
      have n3 : c ≠ i1 := fun w => hb (by simp [w])
      have n4 : c ≠ i2 := fun w => hb (by simp [w])
      exact (sb.2 c n1).trans (hk c o n1 n2 n3 n4 q)
    refine ⟨.ref s.heap.objs.size, _, I2, rfl, ⟨_, x, y, rfl, I.fresh, rfl, fun l hl => by rw [SqK.same I hl hqx]; exact hx, fun l hl => by rw [SqK.same I hl hqy]; exact hy⟩, ⟨z3, ?_, ⟨v1, v2, ?_⟩, ?_, ?_⟩, fun c hc => ?_⟩
    · exact (sb.2 _ D.TIz).trans (hk _ _ D.TIz D.TITO D.TIi1 D.TIi2 hTI)
    · exact (sb.2 _ D.TOz).trans TO'
    · exact h1'.1.at' fun o q => (sb.2 _ D.i1z).trans q
    · exact h2'.1.at' fun o q => (sb.2 _ D.i2z).trans q
    · have cl : c < s.heap.objs.size := by
        rcases five hc with rfl | rfl | rfl | rfl | rfl
        · exact zl
        · exact Heap.lt_size hTI
        · exact Heap.lt_size hTO
        · obtain ⟨_, e1, _⟩ := h1.obj; exact Heap.lt_size e1
        · obtain ⟨_, e1, _⟩ := h2.obj; exact Heap.lt_size e1
      rw [upd_ne (Nat.ne_of_lt cl)]
      exact (hf c hc).1
  case done =>
    rintro X rfl rfl rfl calm i pins s σ H E I hf ⟨hz, hTI, ⟨x0, y0, hTO⟩, h1, h2⟩ ⟨xs, ys, hqx, hqy, le1, le2, hend⟩
    obtain ⟨us, rv, k1⟩ := SqK.get I hqx
    obtain ⟨us2, rv2, kb⟩ := SqK.get I hqy
    have l1 : us.toArray.size = xs.length := by rw [List.size_toArray, rv.length]
    have l2 : us2.toArray.size = ys.length := by rw [List.size_toArray, rv2.length]
    refine wpAny_pyNext_zipD2_end (zsep D) (drawsK (its := us.toArray) (by exact I.ok.hd calm) (k1.ne_it h1)) (drawsK (its := us2.toArray) (by exact I.ok.hd calm) (kb.ne_it h2)) hz hTI hTO ⟨h1, k1⟩ ⟨h2, kb⟩ (by omega) (by omega) (by omega) fun h' tk hk => ⟨rfl, ?_⟩
    refine I.turnedL (ch := [z, TI, TO, i1, i2]) (fun c o hb q => ?_) hf
    exact hk c o (fun w => hb (by simp [w])) (fun w => hb (by simp [w])) (fun w => hb (by simp [w])) (fun w => hb (by simp [w])) q
  case self =>
    rintro A i s Q E ⟨hz, _⟩ q
    exact wpAny_pyIter_zip hz q
def iZp (K : PySem.W.Frag) (ta : TA) : TI := fun σ H R => ta σ H fun vs H1 => ∃ k k2 a b xs ys, vs = [.ref a, .ref b] ∧ SqK k K H1 a xs ∧ SqK k2 K H1 b ys ∧ R (IZp k k2 K a b) H1
theorem pi_zp {ta : TA} {x1 p1 : Pos} {els : List Expr} {kk : Nat} {tp : Pos} (hg : Gl X "zip") (hm : X.mg "zip" = none) (n1 : notStar e = true) (n2 : notStar e2 = true) (ha : PA X [e, e2] ta) :
    PI X (.Tuple els kk tp) (.Call (.Name "zip" x1) [e, e2] [] p1) (iZp X.K ta) := by
  constructor
  intro pins s σ H R I z
  refine PyProof.Rows.Call_ (ld_blt I hg hm PyProof.Rows.boot_zip (PyProof.Rows.callWith_type1 (thn (ha.run p1 pins s σ H _ I z) fun us s2 z2 => ?_) (star_cons n1 [e2]) (star_any (by simp [n2]))))
  obtain ⟨vs, H2, I2, rs, k, k2, a, b, xs, ys, ex, hqx, hqy, r⟩ := z2
  subst ex
  obtain ⟨u, u2, rfl, ru, ru2⟩ := Vals.two rs
  cases ru
  cases ru2
  obtain ⟨w1, rv, k1⟩ := SqK.get I2 hqx
  obtain ⟨w2, rv2, kb⟩ := SqK.get I2 hqy
  obtain ⟨o1, g1, _⟩ := k1.obj
  obtain ⟨o2, g2, _⟩ := kb.obj
  refine zip_begins2 (beginsK (its := w1.toArray)) (beginsK (its := w2.toArray)) k1 kb fun h' hz hTI hTO ho1 ho2 hsz kp => wpAny_pyIter_zip hz ?_
  have I3 : Inv X pins σ H2 { s2 with heap := h' } := I2.kept (t' := s2.toks) kp
  refine ⟨s2.heap.objs.size + 4, [s2.heap.objs.size + 4, s2.heap.objs.size + 2, s2.heap.objs.size + 3, s2.heap.objs.size, s2.heap.objs.size + 1], _, _, H2, rfl, I3,
    turn_zp (PySem.W.ktu_apart s2.heap.objs.size a b (Heap.lt_size g1) (Heap.lt_size g2)), ⟨hz, hTI, ⟨_, _, hTO⟩, itK_of ho1, itK_of ho2⟩, fun c hc => ?_, r⟩
  have le : s2.heap.objs.size ≤ c := by
    have : c = s2.heap.objs.size + 4 ∨ c = s2.heap.objs.size + 2 ∨ c = s2.heap.objs.size + 3 ∨ c = s2.heap.objs.size ∨ c = s2.heap.objs.size + 1 := by simpa using hc
    rcases this with w | w | w | w | w
    · rw [w]; exact Nat.le_add_right _ 4
    · rw [w]; exact Nat.le_add_right _ 2
    · rw [w]; exact Nat.le_add_right _ 3
    · rw [w]; exact Nat.le_refl _
    · rw [w]; exact Nat.le_add_right _ 1
  exact I2.fpOk le (I2.hok.fresh le)
end
end Mp
namespace Mp
open PySem L2 PySem.Spec
section
variable {G : Wd} {n : Nat} {N : List Str} {sc : Scope} {W W0 : WX} {X : Cx} {a b c e tg : Expr} {es : List Expr} {pos p p1 p2 p3 : Pos} {f h k : Env → M Tv} {ft ht kt : Env → M Bool} {fs hs : Env → M (List Tv)}
  {ν μ ν' μ' ν1 μ1 ν0 μ0 : List Addr} {H H' H1 H0 : Hp} {S S' S0 : Sto}
/-! ### what is gone through stands still -/
theorem src_at {t : Tv} {v : V} {ts : List Tv} {w : List (Nat × List Tv)} (st : StR G ν0 μ0 S0 H0) (d : Dn G ν0 μ0 H0 t v) (e : srcOf S0 t = some (ts, w)) :
    ∃ (a : Addr) (k : Bool), v = .ref a ∧ ∀ ν μ S H, Al G ν0 μ0 H0 ν μ S H → stays w S = true → ∃ xs, SqK k G.K H a xs ∧ Dns G ν μ H ts xs := by
  cases t with
  | tup us =>
    cases e
    have d0 := d
    simp only [Dn] at d
    obtain ⟨a, vs, rfl, _⟩ := d
    refine ⟨a, false, rfl, fun ν μ S H af _ => ?_⟩
    have d1 := d0.al af
    simp only [Dn] at d1
    obtain ⟨a', vs, ea, fz, d1⟩ := d1
    cases ea
    exact ⟨vs, fz.sq, d1⟩
  | lst us =>
    cases e
    have d0 := d
    simp only [Dn] at d
    obtain ⟨a, vs, rfl, _⟩ := d
    refine ⟨a, true, rfl, fun ν μ S H af _ => ?_⟩
    have d1 := d0.al af
    simp only [Dn] at d1
    obtain ⟨a', vs, ea, fz, d1⟩ := d1
    cases ea
    exact ⟨vs, fz.sq, d1⟩
  | cell m =>
    simp only [srcOf] at e
    split at e
    · rename_i us hm
      cases e
      obtain ⟨q, vs, rfl, hq, _, _⟩ := cell_at st d hm
      refine ⟨q, true, rfl, fun ν μ S H af hw => ?_⟩
      have hw' : S[m]? = some (.lst ts) := by simpa [stays] using hw
      obtain ⟨q', ws, eq, _, h2, h3⟩ := cell_at af.st (d.al af) hw'
      cases eq
      exact ⟨ws, .inl (.inl h2), h3⟩
    · cases e
  | _ => cases e
theorem Dns.back {ts : List Tv} {xs : List V} {i : Nat} {x : V} (d : Dns G ν μ H ts xs) (e : xs[i]? = some x) : ∃ t, ts[i]? = some t ∧ Dn G ν μ H t x := by
  have hl : i < ts.length := by rw [d.length]; exact (List.getElem?_eq_some_iff.mp e).1
  obtain ⟨v, e1, d1⟩ := d.get (List.getElem?_eq_getElem hl)
  rw [e] at e1
  cases e1
  exact ⟨_, List.getElem?_eq_getElem hl, d1⟩
theorem itr_seq {ts : List Tv} {w : List (Nat × List Tv)} {a : Addr} {k : Bool} (z : ∀ ν μ S H, Al G ν0 μ0 H0 ν μ S H → stays w S = true → ∃ xs, SqK k G.K H a xs ∧ Dns G ν μ H ts xs) :
    ItR G ν0 μ0 H0 ts w (match k with | true => Itl G.K a | false => Itt G.K a) := by
  cases k with
  | true =>
    refine ⟨fun i ν μ S H af hw hi => ?_, fun i ν μ S H af hw hi => ?_⟩
    · obtain ⟨xs, hq, d⟩ := z _ _ _ _ af hw
      have hl : i < xs.length := by rw [← d.length]; exact hi
      refine ⟨⟨xs, _, hq, List.getElem?_eq_getElem hl⟩, fun x H' y => ?_⟩
      obtain ⟨e, y⟩ := y
      subst e
      obtain ⟨t, e1, d1⟩ := d.back (y xs hq)
      exact ⟨t, e1, .refl af.st, d1, fun _ _ q => q⟩
    · obtain ⟨xs, hq, d⟩ := z _ _ _ _ af hw
      exact ⟨xs, hq, by rw [← d.length, hi]; exact Nat.le_refl _⟩
  | false =>
    refine ⟨fun i ν μ S H af hw hi => ?_, fun i ν μ S H af hw hi => ?_⟩
    · obtain ⟨xs, hq, d⟩ := z _ _ _ _ af hw
      have hl : i < xs.length := by rw [← d.length]; exact hi
      refine ⟨⟨xs, _, hq, List.getElem?_eq_getElem hl⟩, fun x H' y => ?_⟩
      obtain ⟨e, y⟩ := y
      subst e
      obtain ⟨t, e1, d1⟩ := d.back (y xs hq)
      exact ⟨t, e1, .refl af.st, d1, fun _ _ q => q⟩
    · obtain ⟨xs, hq, d⟩ := z _ _ _ _ af hw
      exact ⟨xs, hq, by rw [← d.length, hi]; exact Nat.le_refl _⟩
theorem enumT_get : ∀ {ts : List Tv} {j : Int} {i : Nat} {t : Tv}, ts[i]? = some t → (enumT j ts)[i]? = some (.tup [.int (j + i), t])
  | [], _, _, _, h => by simp at h
  | x :: r, j, 0, t, h => by simp at h; subst h; simp [enumT]
  | x :: r, j, i + 1, t, h => by
    have q := enumT_get (j := j + 1) (i := i) (t := t) (by simpa using h)
    simp only [enumT, List.getElem?_cons_succ, q]
    have e : j + 1 + (i : Int) = j + ((i + 1 : Nat) : Int) := by omega
    rw [e]
theorem enumT_len : ∀ {ts : List Tv} {j : Int}, (enumT j ts).length = ts.length
  | [], _ => rfl
  | x :: r, j => by simp only [enumT, List.length_cons, enumT_len]
theorem pair_dn {x y : V} {t u : Tv} {T : Addr} (s : StR G ν μ S H) (hT : H T = none) (d1 : Dn G ν μ H t x) (d2 : Dn G ν μ H u y) : Dn G ν μ (upd H T (.tup [x, y])) (.tup [t, u]) (.ref T) :=
  Dn.tup (s.fresh hT) upd_same (Dns.kp (.new1 hT) (List.prefix_refl _) _ _ (Dns.two d1 d2))
theorem itr_en {ts : List Tv} {w : List (Nat × List Tv)} {a : Addr} {k : Bool} (z : ∀ ν μ S H, Al G ν0 μ0 H0 ν μ S H → stays w S = true → ∃ xs, SqK k G.K H a xs ∧ Dns G ν μ H ts xs) : ItR G ν0 μ0 H0 (enumT 0 ts) w (IEn k G.K a) := by
  refine ⟨fun i ν μ S H af hw hi => ?_, fun i ν μ S H af hw hi => ?_⟩
  · obtain ⟨xs, hq, d⟩ := z _ _ _ _ af hw
    have hl : i < xs.length := by rw [← d.length, ← enumT_len (j := 0)]; exact hi
    refine ⟨⟨xs, _, hq, List.getElem?_eq_getElem hl⟩, fun v H' y => ?_⟩
    obtain ⟨T, x, rfl, hT, rfl, y⟩ := y
    obtain ⟨t, e1, d1⟩ := d.back (y xs hq)
    refine ⟨_, enumT_get e1, .new1 af.st hT, ?_, fun b o q => by rw [upd_ne (ne_of_none q hT)]; exact q⟩
    rw [show (0 : Int) + (i : Int) = (i : Nat) by omega]
    exact pair_dn af.st hT dn_int d1
  · obtain ⟨xs, hq, d⟩ := z _ _ _ _ af hw
    exact ⟨xs, hq, by rw [← d.length, hi, enumT_len]⟩
theorem zipT_get : ∀ {ts us : List Tv} {i : Nat} {t u : Tv}, ts[i]? = some t → us[i]? = some u → (zipT ts us)[i]? = some (.tup [t, u])
  | [], _, _, _, _, h, _ => by simp at h
  | _ :: _, [], _, _, _, _, h => by simp at h
  | x :: r, y :: s, 0, t, u, h, h' => by simp at h h'; subst h h'; simp [zipT]
  | x :: r, y :: s, i + 1, t, u, h, h' => by
    simp only [zipT, List.getElem?_cons_succ]
    exact zipT_get (by simpa using h) (by simpa using h')
theorem zipT_len : ∀ {ts us : List Tv}, (zipT ts us).length = min ts.length us.length
  | [], us => by simp [zipT]
  | _ :: _, [] => by simp [zipT]
  | x :: r, y :: s => by simp only [zipT, List.length_cons, zipT_len]; omega
theorem stays_app {u w : List (Nat × List Tv)} (h : stays (u ++ w) S = true) : stays u S = true ∧ stays w S = true := by
  unfold stays at h ⊢
  rw [List.all_append, Bool.and_eq_true] at h
  exact h
theorem itr_zip {ts us : List Tv} {w w2 : List (Nat × List Tv)} {a b : Addr} {k k2 : Bool} (z : ∀ ν μ S H, Al G ν0 μ0 H0 ν μ S H → stays w S = true → ∃ xs, SqK k G.K H a xs ∧ Dns G ν μ H ts xs)
    (z2 : ∀ ν μ S H, Al G ν0 μ0 H0 ν μ S H → stays w2 S = true → ∃ xs, SqK k2 G.K H b xs ∧ Dns G ν μ H us xs) : ItR G ν0 μ0 H0 (zipT ts us) (w ++ w2) (IZp k k2 G.K a b) := by
  refine ⟨fun i ν μ S H af hw hi => ?_, fun i ν μ S H af hw hi => ?_⟩
  · obtain ⟨xs, hq, d⟩ := z _ _ _ _ af (stays_app hw).1
    obtain ⟨ys, hr, d2⟩ := z2 _ _ _ _ af (stays_app hw).2
    rw [zipT_len, d.length, d2.length] at hi
    have hl : i < xs.length := by omega
    have hl2 : i < ys.length := by omega
    refine ⟨⟨xs, ys, _, _, hq, hr, List.getElem?_eq_getElem hl, List.getElem?_eq_getElem hl2⟩, fun v H' y => ?_⟩
    obtain ⟨T, x, y', rfl, hT, rfl, f1, f2⟩ := y
    obtain ⟨t, e1, d1⟩ := d.back (f1 xs hq)
    obtain ⟨u, e2, d3⟩ := d2.back (f2 ys hr)
    exact ⟨_, zipT_get e1 e2, .new1 af.st hT, pair_dn af.st hT d1 d3, fun b o q => by rw [upd_ne (ne_of_none q hT)]; exact q⟩
  · obtain ⟨xs, hq, d⟩ := z _ _ _ _ af (stays_app hw).1
    obtain ⟨ys, hr, d2⟩ := z2 _ _ _ _ af (stays_app hw).2
    rw [zipT_len, d.length, d2.length] at hi
    exact ⟨xs, ys, hq, hr, by omega, by omega, by omega⟩
theorem rngT_get : ∀ {m : Nat} {j : Int} {i : Nat}, i < m → (rngT j m)[i]? = some (.int (j + i))
  | 0, _, _, h => by omega
  | m + 1, j, 0, h => by simp [rngT]
  | m + 1, j, i + 1, h => by
    simp only [rngT, List.getElem?_cons_succ]
    rw [rngT_get (by omega)]
    have e : j + 1 + (i : Int) = j + ((i + 1 : Nat) : Int) := by omega
    rw [e]
theorem rngT_len : ∀ {m : Nat} {j : Int}, (rngT j m).length = m
  | 0, _ => rfl
  | m + 1, j => by simp only [rngT, List.length_cons, rngT_len]
theorem itr_rng {j : Int} {m : Nat} : ItR G ν0 μ0 H0 (rngT j m) [] (Itr j m) := by
  refine ⟨fun i ν μ S H af hw hi => ?_, fun i ν μ S H af hw hi => ?_⟩
  · rw [rngT_len] at hi
    refine ⟨hi, fun v H' y => ?_⟩
    obtain ⟨rfl, rfl⟩ := y
    exact ⟨_, rngT_get hi, .refl af.st, dn_int, fun _ _ q => q⟩
  · rw [rngT_len] at hi
    exact Nat.le_of_eq hi.symm
theorem tA_two {γ δ : Type} {D' : List Addr → List Addr → Hp → γ → δ → Prop} {kk : Tv → Tv → M γ} {R : δ → Hp → Prop} {P : List V → Hp → Prop} {σ : L2.St} {env : Env} (r : Rl G env S ν μ σ H)
    (z : Fin G (Wk W σ) D' ν μ H (bnd (f env) (fun x => bnd (h env) fun y => kk x y) S) R)
    (q : ∀ (t u : Tv) (S2 : Sto) (ν2 μ2 : List Addr) (H2 : Hp) (v w : V), Af G ν μ H ν2 μ2 S2 H2 → Dn G ν2 μ2 H2 t v → Dn G ν2 μ2 H2 u w → Fin G (Wk W σ) D' ν2 μ2 H2 (kk t u S2) R → P [v, w] H2) :
    tA G W (fun env => bnd (f env) fun x => bnd (bnd (h env) fun x => bnd (ret []) fun xs => ret (x :: xs)) fun xs => ret (x :: xs)) σ H P := by
  refine ⟨env, S, ν, μ, r, ?_⟩
  simp only [bnd] at z ⊢
  cases e1 : f env S with
  | bad => rw [e1] at z; exact z.elim
  | ex c fs S1 => rw [e1] at z; exact z
  | ok t S1 =>
    rw [e1] at z
    simp only [Rs.bnd, bnd] at z ⊢
    cases e2 : h env S1 with
    | bad => rw [e2] at z; exact z.elim
    | ex c fs S1 => rw [e2] at z; exact z
    | ok u S2 =>
      rw [e2] at z
      simp only [Rs.bnd, ret] at z ⊢
      intro vs H2 ν2 μ2 a2 d2
      obtain ⟨v, w, rfl, d3, d4⟩ := Dns.un2 d2
      exact q t u S2 ν2 μ2 H2 v w a2 d3 d4 (Fin.after a2 z)
/-! ### the readings -/
theorem s_iseq (g : Gd G n N sc W X) (ha : PE X a (tE G W f)) : PI X tg a (tI G W fun env => bnd (f env) fun x S => opt (srcOf S x) S) := by
  refine PI.imp (pi_any ha) fun σ H R ⟨env, S, ν, μ, r, z⟩ => ?_
  refine ⟨env, S, ν, μ, r, (Fin.bnd (D := DV G) z).mono fun v H1 ⟨t, S1, ν1, μ1, a1, d1, z⟩ => ?_⟩
  obtain ⟨q, e, z⟩ := z.opt
  obtain ⟨ts, w⟩ := q
  obtain ⟨q, k, rfl, y⟩ := src_at a1.st d1 e
  have hs : stays w S1 = true := by
    cases t with
    | cell m =>
      simp only [srcOf] at e
      split at e
      · rename_i us hm; cases e; simp [stays, hm]
      · cases e
    | tup _ => cases e; rfl
    | lst _ => cases e; rfl
    | _ => cases e
  obtain ⟨xs, hq, _⟩ := y _ _ _ _ (.refl a1.st) hs
  have hit := itr_seq y
  rw [g.iw.K]
  cases k with
  | true => exact ⟨q, xs, rfl, .inl ⟨hq, z _ _ _ _ (.refl a1.st) hit⟩⟩
  | false => exact ⟨q, xs, rfl, .inr ⟨hq, z _ _ _ _ (.refl a1.st) hit⟩⟩
theorem stays0 {t : Tv} {ts : List Tv} {w : List (Nat × List Tv)} (e : srcOf S t = some (ts, w)) : stays w S = true := by
  cases t with
  | cell m =>
    simp only [srcOf] at e
    split at e
    · rename_i us hm; cases e; simp [stays, hm]
    · cases e
  | tup _ => cases e; rfl
  | lst _ => cases e; rfl
  | _ => cases e
theorem s_ienum {els : List Expr} {kk : Nat} {tp : Pos} (g : Gd G n N sc W X) (hg : Gl X "enumerate") (hm : G.mg "enumerate" = none) (ns : notStar a = true) (ha : PE X a (tE G W f)) :
    PI X (.Tuple els kk tp) (.Call (.Name "enumerate" p) [a] [] pos) (tI G W fun env => bnd (f env) fun x S => match srcOf S x with
      | some (xs, u) => .ok (enumT 0 xs, u) S
      | none => .bad) := by
  refine PI.imp (pi_en hg (by rw [g.iw.mg]; exact hm) ns ha) fun σ H R ⟨env, S, ν, μ, r, z⟩ => ?_
  refine ⟨env, S, ν, μ, r, (Fin.bnd (D := DV G) z).mono fun v H1 ⟨t, S1, ν1, μ1, a1, d1, z⟩ => ?_⟩
  cases e : srcOf S1 t with
  | none => simp only [e] at z; exact z.elim
  | some q =>
    obtain ⟨ts, w⟩ := q
    simp only [e] at z
    obtain ⟨q, k, rfl, y⟩ := src_at a1.st d1 e
    obtain ⟨xs, hq, _⟩ := y _ _ _ _ (.refl a1.st) (stays0 e)
    rw [g.iw.K]
    exact ⟨k, q, xs, rfl, hq, z _ _ _ _ (.refl a1.st) (itr_en y)⟩
theorem s_izip {els : List Expr} {kk : Nat} {tp : Pos} (g : Gd G n N sc W X) (hg : Gl X "zip") (hm : G.mg "zip" = none) (n1 : notStar a = true) (n2 : notStar b = true) (ha : PE X a (tE G W f)) (hb : PE X b (tE G W h)) :
    PI X (.Tuple els kk tp) (.Call (.Name "zip" p) [a, b] [] pos) (tI G W fun env => bnd (f env) fun x => bnd (h env) fun y S => match srcOf S x, srcOf S y with
      | some (xs, u), some (ys, v) => .ok (zipT xs ys, u ++ v) S
      | _, _ => .bad) := by
  refine PI.imp (pi_zp hg (by rw [g.iw.mg]; exact hm) n1 n2 (s_cons n1 ha (s_cons n2 hb s_nil))) fun σ H R ⟨env, S, ν, μ, r, z⟩ => ?_
  refine tA_two r z fun t u S2 ν2 μ2 H2 v w a2 d3 d4 z => ?_
  cases e3 : srcOf S2 t with
  | none => simp only [e3] at z; exact z.elim
  | some q3 =>
    cases e4 : srcOf S2 u with
    | none => simp only [e3, e4] at z; exact z.elim
    | some q4 =>
      simp only [e3, e4] at z
      obtain ⟨ts, w3⟩ := q3
      obtain ⟨us, w4⟩ := q4
      obtain ⟨q, k, rfl, y⟩ := src_at a2.st d3 e3
      obtain ⟨q', k', rfl, y'⟩ := src_at a2.st d4 e4
      obtain ⟨xs, hq, _⟩ := y _ _ _ _ (.refl a2.st) (stays0 e3)
      obtain ⟨ys, hq', _⟩ := y' _ _ _ _ (.refl a2.st) (stays0 e4)
      rw [g.iw.K]
      exact ⟨k, k', q, q', xs, ys, rfl, hq, hq', z _ _ _ _ (.refl a2.st) (itr_zip y y')⟩
theorem s_irng (g : Gd G n N sc W X) (hg : Gl X "range") (hm : G.mg "range" = none) (n1 : notStar a = true) (ha : PE X a (tE G W f)) :
    PI X tg (.Call (.Name "range" p) [a] [] pos) (tI G W fun env => bnd (f env) fun x => match x with
      | .int i => if -1000000 < i ∧ i < 1000000 then ret (rngT 0 i.toNat, []) else bad
      | _ => bad) := by
  refine PI.imp (pi_range1 hg (by rw [g.iw.mg]; exact hm) (pa_one n1 ha) (star_cons n1 [])) fun σ H R ⟨env, S, ν, μ, r, z⟩ => ?_
  refine tA_one r ((Fin.bnd (D := DV G) z).mono fun v H1 ⟨t, S1, ν1, μ1, a1, d1, z⟩ => ?_)
  cases t with
  | int i =>
    simp only [Dn] at d1
    subst d1
    simp only at z
    split at z
    · exact ⟨i, rfl, by omega, by omega, z _ _ _ _ (.refl a1.st) itr_rng⟩
    · exact z.elim
  | _ => exact z.elim
theorem s_irng2 (g : Gd G n N sc W X) (hg : Gl X "range") (hm : G.mg "range" = none) (n1 : notStar a = true) (n2 : notStar b = true) (ha : PE X a (tE G W f)) (hb : PE X b (tE G W h)) :
    PI X tg (.Call (.Name "range" p) [a, b] [] pos) (tI G W fun env => bnd (f env) fun x => bnd (h env) fun y => match x, y with
      | .int i, .int j => if (-1000000 < i ∧ i < 1000000) ∧ -1000000 < j ∧ j < 1000000 then ret (rngT i (j - i).toNat, []) else bad
      | _, _ => bad) := by
  refine PI.imp (pi_range2 hg (by rw [g.iw.mg]; exact hm) (s_cons n1 ha (s_cons n2 hb s_nil)) (by rw [star_cons n1, star_cons n2]; rfl) (by rw [star_cons n2]; rfl)) fun σ H R ⟨env, S, ν, μ, r, z⟩ => ?_
  refine tA_two r z fun t u S2 ν2 μ2 H2 v w a2 d3 d4 z => ?_
  cases t with
  | int i =>
    cases u with
    | int j =>
      simp only [Dn] at d3 d4
      subst d3 d4
      simp only at z
      split at z
      · exact ⟨i, j, rfl, ⟨by omega, by omega, by omega, by omega⟩, z _ _ _ _ (.refl a2.st) itr_rng⟩
      · exact z.elim
    | _ => exact z.elim
  | _ => exact z.elim
end
end Mp
namespace Mp
open PySem L2 PySem.Spec
section
variable {G : Wd} {n : Nat} {N : List Str} {sc : Scope} {W W0 : WX} {X : Cx} {a b c e tg elt iter : Expr} {es : List Expr} {pos p p1 p2 p3 : Pos} {f h k : Env → M Tv} {ft ht kt : Env → M Bool} {fs hs : Env → M (List Tv)}
  {ν μ ν' μ' ν1 μ1 ν0 μ0 : List Addr} {H H' H1 H0 : Hp} {S S' S0 : Sto}
abbrev WN : WX := fun _ _ _ _ => False
/-- a comprehension's block -/
theorem Gd.blk (g : Gd G n N sc W X) (scope : Scope) (s : Shared) (H : Hp) (C : Addr) (cl : List (Str × Addr)) (fp : List Addr) : Gd G n N (relS scope sc) WN (X.blk s H scope (compEnvC scope cl C X.env) fp) :=
  ⟨⟨g.iw.P, g.iw.w, g.iw.K, g.iw.mg, g.iw.base, g.iw.gd⟩, g.nms, by rw [← g.sc]; rfl, g.nd, g.calm, g.room, takes0, g.sys⟩
theorem fold_no (h : notSet iter = true) {env : PySem.Env} (x : Value) : foldedSetIterable iter env x = pure x := by
  cases iter <;> first | rfl | cases h
theorem PTs.imp {ifs : List Expr} {t t' : TT} (h : PTs X ifs t) (i : ∀ σ H Q, t' σ H Q → t σ H Q) : PTs X ifs t' := ⟨fun pins s σ H Q I q => h.run pins s σ H Q I (i σ H Q q)⟩
theorem s_pts0 : PTs X [] (tT G W fun _ => ret true) := PTs.imp pts_nil fun σ H Q ⟨env, S, ν, μ, r, z⟩ => Fin.ok z r.st rfl
theorem s_pts1 (hc : PT X c (tT G W ft)) : PTs X [c] (tT G W ft) := pts_one hc
abbrev lcM (own : List Nat) (tg : Tg) (fi : Env → M (List Tv × List (Nat × List Tv))) (fc : Env → M Bool) (fe : Env → M Tv) : Env → M (List Tv) :=
  fun env => bnd (fi env) fun q => if q.1.length ≤ lim then compL q.2 tg (wipeE env own) fc fe q.1 else bad
/-- what a comprehension's parts are -/
structure LcR (G : Wd) (n : Nat) (N : List Str) (sc : Scope) (X : Cx) (elt tg iter : Expr) (ifs : List Expr) (scope : Scope) (own : List (Str × Nat)) (W : WX) (tgt : Tg) (fi : Env → M (List Tv × List (Nat × List Tv))) (fc : Env → M Bool) (fe : Env → M Tv) : Prop where
  hi : PI X tg iter (tI G W fi)
  ok : blkC N sc scope own = true
  hg : ∀ Y, Gd G n N (relS scope sc) WN Y → (∀ x, (scope.names.lookup x == some .cell) = true → Y.fn x = true) → PG Y tg (gT G tgt)
  ht : ∀ Y, Gd G n N (relS scope sc) WN Y → PTs Y ifs (tT G WN fc)
  he : ∀ Y, Gd G n N (relS scope sc) WN Y → PE Y elt (tE G WN fe)
  ho : ∀ i ∈ tgt.slots, i ∈ own.map (·.2)
  ns : notSet iter = true
theorem s_lc {ifs : List Expr} {scope : Scope} {own : List (Str × Nat)} {tgt : Tg} {fi : Env → M (List Tv × List (Nat × List Tv))} {fc : Env → M Bool} {fe : Env → M Tv} (g : Gd G n N sc W X) (l : LcR G n N sc X elt tg iter ifs scope own W tgt fi fc fe) :
    PE X (.ListComp elt [⟨tg, iter, ifs, 0⟩] scope pos) (tL G W (lcM (own.map (·.2)) tgt fi fc fe)) := by
  refine PE.imp (pe_lc (own := own) g.calm (by rw [g.nms]; exact g.nd) l.hi (by rw [g.nms, g.sc]; exact blkOk_by l.ok) (fun s H C cl fp => l.hg _ (g.blk scope s H C cl fp) fun x hx => hx)
    (fun s H C cl fp => l.ht _ (g.blk scope s H C cl fp)) (fun s H C cl fp => l.he _ (g.blk scope s H C cl fp)) (fold_no l.ns)) fun σ H Q z => comp_imp l.ho z
/-! ### isinstance -/
theorem truth_bool (m : M Bool) : (bnd (bnd m fun b => ret (.bl b)) truthM) = m := by
  funext S
  simp only [bnd]
  cases m S <;> rfl
/-- the classes' own facts, for isinstance -/
structure ClsF (G : Wd) (C : Addr) : Prop where
  cl : Cls G.K C
  ha : PySem.W.findIn G.K (.ref C) "__class__" = some (some (.builtin "object.__class__"))
  hn : PySem.W.specialIn G.K (.builtin "object.__class__") "__get__" = some (some (.builtin "getset_descriptor.__get__"))
  ht : PySem.W.takesIn G.K (.builtin "object.__class__") = some true
  hm : PySem.W.mroIn G.K C (.type "object") = some true
def Kd.ty : Kd → String
  | .int => "int"
  | .bool => "bool"
  | .tuple => "tuple"
  | .str => "str"
  | .list => "list"
  | .cls _ => ""
/-- the kind as a value, and what is to be known of it -/
def KdV (G : Wd) : Kd → V → Prop
  | .cls c, v => ∃ C, v = .ref C ∧ G.mg (G.cls c).1 = some (.ref C) ∧ (∀ T, T = "NoneType" ∨ T = "bool" ∨ T = "int" ∨ T = "str" ∨ T = "tuple" ∨ T = "list" ∨ T = "dict" → PySem.W.kitOne G.K (.type T) (.ref C) = some false) ∧
      ∀ c' C', G.mg (G.cls c').1 = some (.ref C') → ClsF G C' ∧ PySem.W.kitOne G.K (.ref C') (.ref C) = some (decide (c' = c))
  | k, v => v = .ty k.ty ∧ ∀ c C, G.mg (G.cls c).1 = some (.ref C) → ClsF G C ∧ PySem.W.kitOne G.K (.ref C) (.type k.ty) = some false
theorem kdB (k : Kd) (hk : ∀ c, k ≠ .cls c) : kitB "NoneType" k.ty = some false ∧ kitB "bool" k.ty = some (decide (k = .int ∨ k = .bool)) ∧ kitB "int" k.ty = some (decide (k = .int)) ∧ kitB "str" k.ty = some (decide (k = .str)) ∧
    kitB "tuple" k.ty = some (decide (k = .tuple)) ∧ kitB "list" k.ty = some (decide (k = .list)) ∧ kitB "dict" k.ty = some false := by
  cases k with
  | cls c => exact absurd rfl (hk c)
  | _ => decide +kernel
theorem kdv_ty {kd : Kd} {kv : V} (hk : ∀ c, kd ≠ .cls c) (kk : KdV G kd kv) : kv = .ty kd.ty ∧ ∀ c C, G.mg (G.cls c).1 = some (.ref C) → ClsF G C ∧ PySem.W.kitOne G.K (.ref C) (.type kd.ty) = some false := by
  cases kd with
  | cls c => exact absurd rfl (hk c)
  | _ => exact kk
theorem isi_one (d : Dn G ν μ H t v) (st : StR G ν μ S H) {kd : Kd} {kv : V} (kk : KdV G kd kv) {b : Bool} (e : isiV kd S t = some b) :
    ∃ (ty u : Value), ClsV kv u ∧ TyX G.K H v ty ∧ PySem.W.kitOne G.K ty u = some b := by
  have base : ∃ u, ClsV kv u ∧ (∀ (T : String) (r : Bool), (T, r) ∈ [("NoneType", false), ("bool", decide (kd = .int ∨ kd = .bool)), ("int", decide (kd = .int)), ("str", decide (kd = .str)), ("tuple", decide (kd = .tuple)), ("list", decide (kd = .list)), ("dict", false)] → PySem.W.kitOne G.K (.type T) u = some r) ∧
      ∀ c C, G.mg (G.cls c).1 = some (.ref C) → ClsF G C ∧ PySem.W.kitOne G.K (.ref C) u = some (decide (kd = .cls c)) := by
    by_cases hk : ∃ c, kd = .cls c
    · obtain ⟨c, rfl⟩ := hk
      obtain ⟨C, rfl, h1, h2, h3⟩ := kk
      refine ⟨.ref C, .own C, fun T r hm => ?_, fun c' C' hc => ?_⟩
      · simp only [List.mem_cons, Prod.mk.injEq, List.not_mem_nil, or_false] at hm
        rcases hm with ⟨rfl, rfl⟩ | ⟨rfl, rfl⟩ | ⟨rfl, rfl⟩ | ⟨rfl, rfl⟩ | ⟨rfl, rfl⟩ | ⟨rfl, rfl⟩ | ⟨rfl, rfl⟩ <;> exact h2 _ (by simp)
      · obtain ⟨f1, f2⟩ := h3 c' C' hc
        refine ⟨f1, f2.trans ?_⟩
        congr 1
        simp [eq_comm]
    · have hk' : ∀ c, kd ≠ .cls c := fun c z => hk ⟨c, z⟩
      obtain ⟨rfl, h1⟩ := kdv_ty hk' kk
      obtain ⟨b1, b2, b3, b4, b5, b6, b7⟩ := kdB kd hk'
      refine ⟨_, .ty _, fun T r hm => ?_, fun c' C' hc => ?_⟩
      · simp only [List.mem_cons, Prod.mk.injEq, List.not_mem_nil, or_false] at hm
        rcases hm with ⟨rfl, rfl⟩ | ⟨rfl, rfl⟩ | ⟨rfl, rfl⟩ | ⟨rfl, rfl⟩ | ⟨rfl, rfl⟩ | ⟨rfl, rfl⟩ | ⟨rfl, rfl⟩
        · exact kit_ty b1
        · exact kit_ty b2
        · exact kit_ty b3
        · exact kit_ty b4
        · exact kit_ty b5
        · exact kit_ty b6
        · exact kit_ty b7
      · obtain ⟨f1, f2⟩ := h1 c' C' hc
        exact ⟨f1, f2.trans (by rw [decide_eq_false (hk' c')])⟩
  obtain ⟨u, cu, hb, hc⟩ := base
  cases t with
  | non => cases e; simp only [Dn] at d; subst d; exact ⟨_, u, cu, .base .non, hb _ _ (by simp)⟩
  | bl y => cases e; simp only [Dn] at d; subst d; exact ⟨_, u, cu, .base (.bl y), hb _ _ (by simp)⟩
  | int y => cases e; simp only [Dn] at d; subst d; exact ⟨_, u, cu, .base (.int y), hb _ _ (by simp)⟩
  | str y => cases e; simp only [Dn] at d; subst d; exact ⟨_, u, cu, .base (.str y), hb _ _ (by simp)⟩
  | dct => cases e; simp only [Dn] at d; obtain ⟨q, rfl, _, hq⟩ := d; exact ⟨_, u, cu, .base (.dK hq), hb _ _ (by simp)⟩
  | lst ts => cases e; simp only [Dn] at d; obtain ⟨q, vs, rfl, hq, _⟩ := d; exact ⟨_, u, cu, .base (.lst hq.2), hb _ _ (by simp)⟩
  | tup ts =>
    cases e
    simp only [Dn] at d
    obtain ⟨q, vs, rfl, hq, _⟩ := d
    refine ⟨.type "tuple", u, cu, ?_, hb _ _ (by simp)⟩
    rcases hq with ⟨_, hq | ⟨o, hq⟩⟩ | ⟨o, its, n, hl, hc, _⟩
    · exact .base (.tup hq)
    · exact .fTuple hq
    · exact .kTuple hl hc
  | cell m =>
    simp only [isiV] at e
    split at e
    · rename_i ts hm
      cases e
      obtain ⟨q, vs, rfl, _, hq, _⟩ := cell_at st d hm
      exact ⟨_, u, cu, .base (.lst hq), hb _ _ (by simp)⟩
    · cases e
  | ins c fs =>
    cases e
    simp only [Dn] at d
    obtain ⟨q, dx, C, vs, rfl, _, hq, hm, _⟩ := d
    obtain ⟨f1, f2⟩ := hc c C hm
    exact ⟨_, u, cu, .base (.ins hq f1.cl f1.ha f1.hn f1.ht f1.hm), f2⟩
  | scr ts => cases e
abbrev isiM (kd : Kd) (f : Env → M Tv) : Env → M Bool := fun env => bnd (f env) fun x S => opt (isiV kd S x) S
theorem s_isi {kd : Kd} {kv : V} (g : Gd G n N sc W X) (hg : Gl X "isinstance") (hm : G.mg "isinstance" = none) (kk : KdV G kd kv) (hk : PE X b (tC kv)) (n1 : notStar a = true) (n2 : notStar b = true) (ha : PE X a (tE G W f)) :
    PE X (.Call (.Name "isinstance" p) [a, b] [] pos) (tE G W (boolV (isiM kd f))) ∧ PT X (.Call (.Name "isinstance" p) [a, b] [] pos) (tT G W (isiM kd f)) := by
  have key : PE X (.Call (.Name "isinstance" p) [a, b] [] pos) (tE G W (boolV (isiM kd f))) := by
    refine PE.imp (pe_callB call_isi hg (by rw [g.iw.mg]; exact hm) (by decide +kernel) (pa_cons ha (pa_cons hk pa_nil (star_cons n2 [])) (star_cons n1 [b])) (by decide) (by decide) (star_cons n1 [b]) (star_any (by simp [n2]))) fun σ H Q ⟨env, S, ν, μ, r, z⟩ => ?_
    have z' : Fin G (Wk W σ) (DV G) ν μ H ((f env S).bnd fun x => bnd (fun S => opt (isiV kd S x) S) fun b => ret (Tv.bl b)) Q := by
      rw [boolV, isiM, bnd_assoc] at z
      exact z
    refine ⟨env, S, ν, μ, r, (Fin.bnd (D := DV G) z').mono fun v H1 ⟨t, S1, ν1, μ1, a1, d1, z⟩ => ?_⟩
    cases e : isiV kd S1 t with
    | none => simp only [bnd, e, opt, Rs.bnd] at z; exact z.elim
    | some b =>
      simp only [bnd, e, opt, Rs.bnd] at z
      obtain ⟨ty, u, cu, tx, ko⟩ := isi_one d1 a1.st kk e
      rw [g.iw.K]
      exact ⟨v, kv, ty, u, b, rfl, cu, tx, ko, z.val a1.st dn_bl⟩
  refine ⟨key, ?_⟩
  have q := s_truth g rfl key
  have ef : (fun env => bnd (boolV (isiM kd f) env) truthM) = isiM kd f := by
    funext env
    exact truth_bool _
  rw [ef] at q
  exact q
end
end Mp
namespace Mp
open PySem L2 PySem.Spec
section
variable {G : Wd} {n : Nat} {N : List Str} {sc : Scope} {W W0 : WX} {X : Cx} {a b c e tg elt iter : Expr} {es : List Expr} {pos p p1 p2 p3 : Pos} {f h k : Env → M Tv} {ft ht kt : Env → M Bool} {fs hs : Env → M (List Tv)}
  {ν μ ν' μ' ν1 μ1 ν0 μ0 : List Addr} {H H' H1 H0 : Hp} {S S' S0 S1 : Sto} {st : Stmt} {sts rest : List Stmt} {q q2 : Env → Sto → Sr}
/-- what is wanted behind a statement -/
def FinS (G : Wd) (W : WX) (ν μ : List Addr) (H : Hp) (r : Sr) (D : Ends) : Prop :=
  match r with
  | .nx e S' => ∀ σ' H' ν' μ', Af G ν μ H ν' μ' S' H' → EnR G ν' μ' H' e σ' → D.nx σ' H'
  | .bk e S' => ∀ σ' H' ν' μ', Af G ν μ H ν' μ' S' H' → EnR G ν' μ' H' e σ' → D.bk σ' H'
  | .ct e S' => ∀ σ' H' ν' μ', Af G ν μ H ν' μ' S' H' → EnR G ν' μ' H' e σ' → D.ct σ' H'
  | .rt t S' => ∀ v H' ν' μ', Af G ν μ H ν' μ' S' H' → Dn G ν' μ' H' t v → D.rt v H'
  | .ex c fs e S' => ∀ cls d σ' H' ν' μ', Af G ν μ H ν' μ' S' H' → EnR G ν' μ' H' e σ' → XcR G ν' μ' H' c fs cls d → W cls d σ' H'
  | .bad => False
def tS (G : Wd) (W : WX) (f : Env → Sto → Sr) : TS := fun D σ H => ∃ env S ν μ, Rl G env S ν μ σ H ∧ FinS G W ν μ H (f env S) D
theorem FinS.after {r : Sr} {D : Ends} (a : Af G ν μ H ν1 μ1 S1 H1) (z : FinS G W ν μ H r D) : FinS G W ν1 μ1 H1 r D := by
  cases r with
  | nx e S' => exact fun σ' H' ν' μ' b => z σ' H' ν' μ' (a.trans b)
  | bk e S' => exact fun σ' H' ν' μ' b => z σ' H' ν' μ' (a.trans b)
  | ct e S' => exact fun σ' H' ν' μ' b => z σ' H' ν' μ' (a.trans b)
  | rt t S' => exact fun v H' ν' μ' b => z v H' ν' μ' (a.trans b)
  | ex c fs e S' => exact fun cls d σ' H' ν' μ' b => z cls d σ' H' ν' μ' (a.trans b)
  | bad => exact z
/-- an expression, then the rest: at the base (ν, μ, H), the expression at the point (ν1, μ1, H1) behind it -/
theorem FinS.expr {D : Ends} {env : Env} {σ : L2.St} {kk : Tv → Sto → Sr} (a : Af G ν μ H ν1 μ1 S1 H1) (r : EnR G ν1 μ1 H1 env σ) (z : FinS G W ν μ H (srOf (f env S1) env kk) D) :
    Fin G (Wk W σ) (DV G) ν1 μ1 H1 (f env S1) fun v H2 => ∃ t S2 ν2 μ2, Af G ν1 μ1 H1 ν2 μ2 S2 H2 ∧ Dn G ν2 μ2 H2 t v ∧ FinS G W ν μ H (kk t S2) D := by
  cases e : f env S1 with
  | ok t S2 =>
    rw [e] at z
    exact fun v H2 ν2 μ2 b d => ⟨t, S2, ν2, μ2, b, d, z⟩
  | ex c fs S2 =>
    rw [e] at z
    exact fun cls d H2 ν2 μ2 b x => z cls d σ H2 ν2 μ2 (a.trans b) (r.af b) x
  | bad => rw [e] at z; exact z
theorem FinS.test {D : Ends} {env : Env} {σ : L2.St} {kk : Bool → Sto → Sr} (a : Af G ν μ H ν1 μ1 S1 H1) (r : EnR G ν1 μ1 H1 env σ) (z : FinS G W ν μ H (match ft env S1 with
    | .ok k S => kk k S
    | .ex c fs S => .ex c fs env S
    | .bad => .bad) D) :
    Fin G (Wk W σ) DB ν1 μ1 H1 (ft env S1) fun v H2 => ∃ S2 ν2 μ2, Af G ν1 μ1 H1 ν2 μ2 S2 H2 ∧ FinS G W ν μ H (kk v S2) D := by
  cases e : ft env S1 with
  | ok t S2 =>
    rw [e] at z
    intro v H2 ν2 μ2 b d
    have d' : t = v := d
    subst d'
    exact ⟨S2, ν2, μ2, b, z⟩
  | ex c fs S2 =>
    rw [e] at z
    exact fun cls d H2 ν2 μ2 b x => z cls d σ H2 ν2 μ2 (a.trans b) (r.af b) x
  | bad => rw [e] at z; exact z
theorem FinS.go {D : Ends} {env : Env} {σ : L2.St} {fi : Env → M (List Tv × List (Nat × List Tv))} {kk : List Tv × List (Nat × List Tv) → Sto → Sr} (a : Af G ν μ H ν1 μ1 S1 H1) (r : EnR G ν1 μ1 H1 env σ) (z : FinS G W ν μ H (match fi env S1 with
    | .ok k S => kk k S
    | .ex c fs S => .ex c fs env S
    | .bad => .bad) D) :
    Fin G (Wk W σ) (fun ν μ H q J => ItR G ν μ H q.1 q.2 J) ν1 μ1 H1 (fi env S1) fun J H2 => ∃ q S2 ν2 μ2, Af G ν1 μ1 H1 ν2 μ2 S2 H2 ∧ ItR G ν2 μ2 H2 q.1 q.2 J ∧ FinS G W ν μ H (kk q S2) D := by
  cases e : fi env S1 with
  | ok t S2 =>
    rw [e] at z
    exact fun v H2 ν2 μ2 b d => ⟨t, S2, ν2, μ2, b, d, z⟩
  | ex c fs S2 =>
    rw [e] at z
    exact fun cls d H2 ν2 μ2 b x => z cls d σ H2 ν2 μ2 (a.trans b) (r.af b) x
  | bad => rw [e] at z; exact z
/-! ### one statement -/
abbrev asgM (tgt : Tg) (f : Env → M Tv) : Env → Sto → Sr := fun env S => srOf (f env S) env fun t S => match setTg tgt t env with
    | some e => .nx e S
    | none => .bad
theorem asg_imp {tgt : Tg} {D : Ends} {σ : L2.St} (z : tS G W (asgM tgt f) D σ H) : tE G W f σ H fun x H1 => gT G tgt x σ H1 D.nx := by
  obtain ⟨env, S, ν, μ, r, z⟩ := z
  refine ⟨env, S, ν, μ, r, (FinS.expr (.refl r.st) r.en z).mono fun v H1 ⟨t, S2, ν2, μ2, a, d, z⟩ => ?_⟩
  cases e : setTg tgt t env with
  | none => rw [e] at z; exact z.elim
  | some env' =>
    rw [e] at z
    exact ⟨t, env, ν2, μ2, env', r.en.af a, d, e, fun σ' r' _ => z σ' H1 ν2 μ2 a r'⟩
theorem s_asg {tgt : Tg} (ha : PE X a (tE G W f)) (hg : PG X tg (gT G tgt)) (hs : swapsWithSole [tg] a pos.line X.env = pure false) (hw : swappedStores [tg] a X.env = pure none) (ns : notStar tg = true) :
    PS X (.Assign [tg] a pos) (tS G W (asgM tgt f)) :=
  PS.imp (ps_asg ha hg hs hw (by rw [each_cons ns]; rfl)) fun D σ H z => asg_imp z
theorem fz_imp {σ : L2.St} {Q : VK} (z : tE G W (fun env => bnd (fs env) fun xs => ret (.lst xs)) σ H Q) : tL G W fs σ H Q := by
  obtain ⟨env, S, ν, μ, r, z⟩ := z
  refine ⟨env, S, ν, μ, r, ?_⟩
  simp only [bnd] at z
  cases e : fs env S with
  | ok ts S1 =>
    rw [e] at z
    rintro v H' ν' μ' a ⟨q, vs, rfl, h1, h2, h3, h4, h5, d⟩
    have nd : ∀ y ∈ ν'.filter (fun y => decide (y ≠ q)), y ∈ ν' := fun y hy => (List.mem_filter.mp hy).1
    have a' : Af G ν μ H (ν'.filter (fun y => decide (y ≠ q))) μ' S1 H' :=
      ⟨⟨fun y hy => List.mem_filter.mpr ⟨a.kp.sub y hy, decide_eq_true (fun z => h3 (z ▸ hy))⟩, fun y hy => a.kp.new y (nd y hy), a.kp.keep⟩, a.pre,
        a.st.less nd fun y hy => List.mem_filter.mpr ⟨a.st.sub y hy, decide_eq_true (fun z => h2 (z ▸ hy))⟩, a.nm, a.lk⟩
    refine z (.ref q) H' _ μ' a' ?_
    show Dn G _ μ' H' (.lst ts) (.ref q)
    simp only [Dn]
    exact ⟨q, vs, rfl, ⟨fun hy => by have := (List.mem_filter.mp hy).2; simp at this, h5⟩, Dns.less nd _ _ d⟩
  | ex c fs S1 => rw [e] at z; exact z
  | bad => rw [e] at z; exact z
theorem mu_imp {σ : L2.St} {Q : VK} (z : tE G W (fun env => bnd (fs env) fun xs => alloc (.lst xs)) σ H Q) : tL G W fs σ H Q := by
  obtain ⟨env, S, ν, μ, r, z⟩ := z
  refine ⟨env, S, ν, μ, r, ?_⟩
  simp only [bnd] at z
  cases e : fs env S with
  | ok ts S1 =>
    rw [e] at z
    rintro v H' ν' μ' a ⟨q, vs, rfl, h1, h2, h3, h4, h5, d⟩
    have st := a.st.adopt h1 h2 h5 d
    have nw : ∀ y ∈ μ' ++ [q], y ∈ μ ∨ H y = none := fun y hy => by
      rcases List.mem_append.mp hy with w | w
      · exact a.nm y w
      · rw [List.mem_singleton.mp w]; exact .inr h4
    refine z (.ref q) H' ν' (μ' ++ [q]) ⟨a.kp, a.pre.trans (List.prefix_append _ _), st, nw, a.lk⟩ ?_
    show Dn G _ _ H' (.cell S1.length) (.ref q)
    simp only [Dn]
    exact ⟨q, rfl, by rw [← a.st.len]; simp⟩
  | ex c fs S1 => rw [e] at z; exact z
  | bad => rw [e] at z; exact z
/-- name = [.. for ..] in one line: the block's frame goes behind the store -/
theorem s_asgLc {i : Nat} {y : Str} {py : Pos} {ifs : List Expr} {scope : Scope} {own : List (Str × Nat)} {tgt : Tg} {fi : Env → M (List Tv × List (Nat × List Tv))} {fc : Env → M Bool} {fe : Env → M Tv} {spos : Pos}
    (g : Gd G n N sc W X) (l : LcR G n N sc X elt tg iter ifs scope own W tgt fi fc fe) (hy : N[i]? = some y) (hyl : sc.names.lookup y = some .local)
    (hsw : swapsWith (.ListComp elt [⟨tg, iter, ifs, 0⟩] scope pos) (some (.Name y py)) spos.line X.env = pure true)
    (hf : ∀ σ H Q, tE G W f σ H Q → tL G W (lcM (own.map (·.2)) tgt fi fc fe) σ H Q) :
    PS X (.Assign [.Name y py] (.ListComp elt [⟨tg, iter, ifs, 0⟩] scope pos) spos) (tS G W (asgM (.v i) f)) := by
  refine PS.imp (ps_setLc (i := i) (own := own) g.calm (by rw [g.nms]; exact g.nd) (by rw [g.nms]; exact hy) (by rw [g.sc]; exact hyl) hsw l.hi (by rw [g.nms, g.sc]; exact blkOk_by l.ok) (fun s H C cl fp => l.hg _ (g.blk scope s H C cl fp) fun x hx => hx)
    (fun s H C cl fp => l.ht _ (g.blk scope s H C cl fp)) (fun s H C cl fp => l.he _ (g.blk scope s H C cl fp)) (fold_no l.ns)) fun D σ H z => ?_
  refine comp_imp l.ho (hf σ H _ ?_)
  obtain ⟨env, S, ν, μ, r, z⟩ := z
  refine ⟨env, S, ν, μ, r, (FinS.expr (.refl r.st) r.en z).mono fun v H1 ⟨t, S2, ν2, μ2, a, d, z⟩ => ?_⟩
  exact z _ H1 ν2 μ2 a ((r.en.af a).set d)
/-- two or three plain names at once -/
abbrev tupM (fs : Env → M (List Tv)) : Env → M Tv := fun env => bnd (fs env) fun xs => if xs.length ≤ lim then ret (.tup xs) else bad
theorem par_imp {gs : List Tg} {D : Ends} {σ : L2.St} (z : tS G W (asgM (.tup gs) (tupM fs)) D σ H) :
    tA G W fs σ H fun vs H1 => ∃ ts env ν μ e, EnR G ν μ H1 env σ ∧ Dns G ν μ H1 ts vs ∧ setTgs gs ts env = some e ∧ ∀ σ', EnR G ν μ H1 e σ' → D.nx σ' H1 := by
  obtain ⟨env, S, ν, μ, r, z⟩ := z
  refine ⟨env, S, ν, μ, r, ?_⟩
  simp only [asgM, tupM, bnd] at z
  cases e1 : fs env S with
  | bad => rw [e1] at z; exact z.elim
  | ex c fs S1 => rw [e1] at z; exact fun cls d H2 ν2 μ2 b x => z cls d σ H2 ν2 μ2 b (r.en.af b) x
  | ok ts S1 =>
    rw [e1] at z
    simp only [Rs.bnd] at z
    split at z
    · simp only [ret, srOf, setTg] at z
      intro vs H2 ν2 μ2 a d
      cases e2 : setTgs gs ts env with
      | none => rw [e2] at z; exact z.elim
      | some e =>
        rw [e2] at z
        exact ⟨ts, env, ν2, μ2, e, r.en.af a, d, e2, fun σ' r' => z σ' H2 ν2 μ2 a r'⟩
    · exact z.elim
theorem s_par2 {i j : Nat} {x y : Str} {px py pt : Pos} {kt k2 : Nat} {pt2 : Pos} (g : Gd G n N sc W X) (hi : N[i]? = some x) (hj : N[j]? = some y) (hij : i ≠ j) (hx : sc.names.lookup x = some .local) (hy : sc.names.lookup y = some .local)
    (ha : PA X [a, b] (tA G W fs)) (hw : swappedStores [.Tuple [.Name x px, .Name y py] kt pt] (.Tuple [a, b] k2 pt2) X.env = pure (some [x, y])) :
    PS X (.Assign [.Tuple [.Name x px, .Name y py] kt pt] (.Tuple [a, b] k2 pt2) pos) (tS G W (asgM (.tup [.v i, .v j]) (tupM fs))) := by
  refine PS.imp (ps_par (i := i) (j := j) g.calm (by rw [g.nms]; exact g.nd) (by rw [g.nms]; exact hi) (by rw [g.nms]; exact hj) hij (by rw [g.sc]; exact hx) (by rw [g.sc]; exact hy) ha hw rfl) fun D σ H z => ?_
  obtain ⟨env, S, ν, μ, r, z⟩ := par_imp z
  refine ⟨env, S, ν, μ, r, z.mono fun vs H1 ⟨ts, env, ν, μ, e, r, d, he, q⟩ => ?_⟩
  rcases ts with _ | ⟨t, _ | ⟨u, _ | ⟨w, ws⟩⟩⟩ <;> simp [setTgs, setTg] at he
  subst he
  obtain ⟨v, w, rfl, d1, d2⟩ := d.un2
  exact ⟨v, w, rfl, q _ ((r.set d1).set d2)⟩
theorem s_par3 {i j l : Nat} {x y z : Str} {px py pz pt : Pos} {kt k2 : Nat} {pt2 : Pos} (g : Gd G n N sc W X) (hi : N[i]? = some x) (hj : N[j]? = some y) (hl : N[l]? = some z) (hij : i ≠ j) (hil : i ≠ l) (hjl : j ≠ l) (hx : sc.names.lookup x = some .local)
    (hy : sc.names.lookup y = some .local) (hz : sc.names.lookup z = some .local) (ha : PA X [a, b, c] (tA G W fs)) (hw : swappedStores [.Tuple [.Name x px, .Name y py, .Name z pz] kt pt] (.Tuple [a, b, c] k2 pt2) X.env = pure (some [x, y, z])) :
    PS X (.Assign [.Tuple [.Name x px, .Name y py, .Name z pz] kt pt] (.Tuple [a, b, c] k2 pt2) pos) (tS G W (asgM (.tup [.v i, .v j, .v l]) (tupM fs))) := by
  refine PS.imp (ps_par3 (i := i) (j := j) (l := l) g.calm (by rw [g.nms]; exact g.nd) (by rw [g.nms]; exact hi) (by rw [g.nms]; exact hj) (by rw [g.nms]; exact hl) hij hil hjl (by rw [g.sc]; exact hx) (by rw [g.sc]; exact hy) (by rw [g.sc]; exact hz) ha hw rfl) fun D σ H z => ?_
  obtain ⟨env, S, ν, μ, r, z⟩ := par_imp z
  refine ⟨env, S, ν, μ, r, z.mono fun vs H1 ⟨ts, env, ν, μ, e, r, d, he, q⟩ => ?_⟩
  rcases ts with _ | ⟨t, _ | ⟨u, _ | ⟨w, _ | ⟨w', ws⟩⟩⟩⟩ <;> simp [setTgs, setTg] at he
  subst he
  simp only [Dns] at d
  obtain ⟨v1, _, rfl, d1, v2, _, rfl, d2, v3, _, rfl, d3, rfl⟩ := d
  exact ⟨v1, v2, v3, rfl, q _ (((r.set d1).set d2).set d3)⟩
theorem s_drop (ha : PE X a (tE G W f)) (hs : swapsWith a none pos.line X.env = pure false) : PS X (.Expr a pos) (tS G W fun env S => srOf (f env S) env fun _ S => .nx env S) := by
  refine PS.imp (ps_expr ha hs) fun D σ H ⟨env, S, ν, μ, r, z⟩ => ?_
  exact ⟨env, S, ν, μ, r, (FinS.expr (.refl r.st) r.en z).mono fun v H1 ⟨t, S2, ν2, μ2, a, d, z⟩ => z σ H1 ν2 μ2 a (r.en.af a)⟩
theorem nx_imp {D : Ends} {σ : L2.St} (z : tS G W (fun env S => .nx env S) D σ H) : D.nx σ H := by
  obtain ⟨env, S, ν, μ, r, z⟩ := z
  exact z σ H ν μ (.refl r.st) r.en
theorem s_doc {x : Str} {j : Nat} : PS X (.Expr (.Constant (.str x) j p) pos) (tS G W fun env S => .nx env S) := PS.imp ps_doc fun D σ H z => nx_imp z
theorem s_pass : PS X (.Pass pos) (tS G W fun env S => .nx env S) := PS.imp ps_pass fun D σ H z => nx_imp z
theorem s_break : PS X (.Break pos) (tS G W fun env S => .bk env S) := PS.imp ps_break fun D σ H ⟨env, S, ν, μ, r, z⟩ => z σ H ν μ (.refl r.st) r.en
theorem s_cont : PS X (.Continue pos) (tS G W fun env S => .ct env S) := PS.imp ps_continue fun D σ H ⟨env, S, ν, μ, r, z⟩ => z σ H ν μ (.refl r.st) r.en
theorem s_ret (ha : PE X a (tE G W f)) : PS X (.Return (some a) pos) (tS G W fun env S => srOf (f env S) env fun t S => .rt t S) := by
  refine PS.imp (ps_ret ha) fun D σ H ⟨env, S, ν, μ, r, z⟩ => ?_
  exact ⟨env, S, ν, μ, r, (FinS.expr (.refl r.st) r.en z).mono fun v H1 ⟨t, S2, ν2, μ2, a, d, z⟩ => z v H1 ν2 μ2 a d⟩
theorem s_retN : PS X (.Return none pos) (tS G W fun env S => .rt .non S) := PS.imp ps_retN fun D σ H ⟨env, S, ν, μ, r, z⟩ => z .non H ν μ (.refl r.st) dn_non
theorem s_if (hc : PT X c (tT G W ft)) (ha : PSs X sts (tS G W q)) (hb : PSs X rest (tS G W q2)) : PS X (.If c sts rest pos) (tS G W fun env S => match ft env S with
    | .ok k S => if k then q env S else q2 env S
    | .ex c fs S => .ex c fs env S
    | .bad => .bad) := by
  refine PS.imp (ps_if hc ha hb) fun D σ H ⟨env, S, ν, μ, r, z⟩ => ?_
  refine ⟨env, S, ν, μ, r, (FinS.test (.refl r.st) r.en z).mono fun v H1 ⟨S2, ν2, μ2, a, z⟩ => ?_⟩
  cases v with
  | true => exact iteT ⟨env, S2, ν2, μ2, r.af a, FinS.after a z⟩
  | false => exact iteF ⟨env, S2, ν2, μ2, r.af a, FinS.after a z⟩
/-! ### blocks -/
theorem s_snil : PSs X [] (tS G W fun env S => .nx env S) := PSs.imp pss_nil fun D σ H z => nx_imp z
theorem s_scons (h1 : PS X st (tS G W q)) (h2 : PSs X rest (tS G W q2)) : PSs X (st :: rest) (tS G W fun env S => match q env S with
    | .nx env S => q2 env S
    | x => x) := by
  refine PSs.imp (pss_cons h1 h2) fun D σ H ⟨env, S, ν, μ, r, z⟩ => ⟨env, S, ν, μ, r, ?_⟩
  simp only at z
  cases e : q env S with
  | nx env' S' =>
    rw [e] at z
    exact fun σ' H' ν' μ' a r' => ⟨env', S', ν', μ', ⟨a.st, r'⟩, FinS.after a z⟩
  | _ => rw [e] at z; exact z
/-! ### xs[i] = v -/
theorem assign_sub {o i : Expr} {v : Value} {env : PySem.Env} (hp : plainIx i = true) : assign (.Subscript o i pos) env v = (do
      let ov ← holding [v] (eval o env)
      let iv ← holding [v, ov] (eval i env)
      standAt pos
      holding [v, ov, iv] (setItem ov iv v)
      release [v, ov, iv] []) := by
  cases i <;> first | rfl | cases hp
theorem s_setIx {o i : Expr} {ppos : Pos} (ho : PE X o (tE G W h)) (hi : PE X i (tE G W k)) (ha : PE X a (tE G W f)) (hp : plainIx i = true) (hs : swapsWithSole [.Subscript o i ppos] a pos.line X.env = pure false) (hw : swappedStores [.Subscript o i ppos] a X.env = pure none) :
    PS X (.Assign [.Subscript o i ppos] a pos) (tS G W fun env S => srOf (f env S) env fun t S => srOf (h env S) env fun x S => srOf (k env S) env fun j S => match setAt x j t S with
      | some S' => .nx env S'
      | none => .bad) := by
  refine PS.imp (ps_asg ha (pg_sub ho hi set_list (fun v => assign_sub hp)) hs hw rfl) fun D σ H ⟨env, S, ν, μ, r, z⟩ => ?_
  refine ⟨env, S, ν, μ, r, (FinS.expr (.refl r.st) r.en z).mono fun v H1 ⟨t, S1, ν1, μ1, a1, d1, z⟩ => ?_⟩
  refine ⟨env, S1, ν1, μ1, r.af a1, (FinS.expr a1 (r.en.af a1) z).mono fun x H2 ⟨tx, S2, ν2, μ2, a2, d2, z⟩ => ?_⟩
  refine ⟨env, S2, ν2, μ2, (r.af a1).af a2, (FinS.expr (a1.trans a2) ((r.en.af a1).af a2) z).mono fun y H3 ⟨ty, S3, ν3, μ3, a3, d3, z⟩ => ?_⟩
  cases e : setAt tx ty t S3 with
  | none => rw [e] at z; exact z.elim
  | some S' =>
    rw [e] at z
    unfold setAt at e
    split at e
    · split at e
      · rename_i ts hm
        obtain ⟨j, e1, e2⟩ := Option.map_eq_some_iff.mp e
        subst e2
        obtain ⟨ad, vs, rfl, hq, hh, dd⟩ := cell_at a3.st (d2.af a3) hm
        simp only [Dn] at d3
        subst d3
        have d1' := (d1.af a2).af a3
        have ak := Af.lst a3.st hq (dd.set j d1')
        refine ⟨ad, vs, _, j, rfl, rfl, hh, by rw [← dd.length]; exact e1, ?_⟩
        exact z σ _ ν3 μ3 (((a1.trans a2).trans a3).trans ak) (((((r.en.af a1).af a2).af a3)).af ak)
      · cases e
    · cases e
/-! ### loops -/
theorem s_while (hp : PassesOwn (model X.prog X.w) X.A X.env X.xe) (hc : PT X c (tT G W ft)) (hb : PSs X sts (tS G W q)) (m : Nat) : PS X (.While c sts [] pos) (tS G W (whileL ft q m)) := by
  refine PS.imp (ps_while hp hc hb) fun D σ H ⟨env, S, ν, μ, r, z⟩ => ?_
  refine ⟨fun m σ1 H1 => ∃ env1 S1 ν1 μ1, Af G ν μ H ν1 μ1 S1 H1 ∧ EnR G ν1 μ1 H1 env1 σ1 ∧ FinS G W ν μ H (whileL ft q m env1 S1) D, ⟨m, env, S, ν, μ, .refl r.st, r.en, z⟩, ?_⟩
  rintro m σ1 H1 ⟨env1, S1, ν1, μ1, a1, r1, z1⟩
  cases m with
  | zero => exact z1.elim
  | succ m =>
    simp only [whileL] at z1
    have z2 : FinS G W ν μ H (match ft env1 S1 with
        | .ok k S => (if k = true then (match q env1 S with
            | .nx e S => whileL ft q m e S
            | .ct e S => whileL ft q m e S
            | .bk e S => .nx e S
            | .rt t S => .rt t S
            | .ex c fs e S => .ex c fs e S
            | .bad => .bad) else .nx env1 S)
        | .ex c fs S => .ex c fs env1 S
        | .bad => .bad) D := by
      cases e : ft env1 S1 with
      | ok k S2 => rw [e] at z1; cases k <;> exact z1
      | ex c fs S2 => rw [e] at z1; exact z1
      | bad => rw [e] at z1; exact z1
    refine ⟨env1, S1, ν1, μ1, ⟨a1.st, r1⟩, (FinS.test (kk := fun k S => if k = true then (match q env1 S with
            | .nx e S => whileL ft q m e S
            | .ct e S => whileL ft q m e S
            | .bk e S => .nx e S
            | .rt t S => .rt t S
            | .ex c fs e S => .ex c fs e S
            | .bad => .bad) else .nx env1 S) a1 r1 z2).mono fun k H2 ⟨S2, ν2, μ2, a2, z3⟩ => ?_⟩
    cases k with
    | false =>
      refine iteF ?_
      exact z3 σ1 H2 ν2 μ2 (a1.trans a2) (r1.af a2)
    | true =>
      refine iteT ⟨fun σ' H' => ∃ m', m' < m + 1 ∧ ∃ env1 S1 ν1 μ1, Af G ν μ H ν1 μ1 S1 H' ∧ EnR G ν1 μ1 H' env1 σ' ∧ FinS G W ν μ H (whileL ft q m' env1 S1) D, fun _ _ w => w, env1, S2, ν2, μ2, ⟨a2.st, r1.af a2⟩, ?_⟩
      simp only [if_true] at z3
      have ab := a1.trans a2
      cases e : q env1 S2 with
      | nx e' S' => rw [e] at z3; exact fun σ' H' ν' μ' b r' => ⟨m, Nat.lt_succ_self _, e', S', ν', μ', ab.trans b, r', z3⟩
      | ct e' S' => rw [e] at z3; exact fun σ' H' ν' μ' b r' => ⟨m, Nat.lt_succ_self _, e', S', ν', μ', ab.trans b, r', z3⟩
      | bk e' S' => rw [e] at z3; exact fun σ' H' ν' μ' b r' => z3 σ' H' ν' μ' (ab.trans b) r'
      | rt t S' => rw [e] at z3; exact fun v H' ν' μ' b r' => z3 v H' ν' μ' (ab.trans b) r'
      | ex c fs e' S' => rw [e] at z3; exact fun cls d σ' H' ν' μ' b r' x => z3 cls d σ' H' ν' μ' (ab.trans b) r' x
      | bad => rw [e] at z3; exact z3
theorem s_for {tgt : Tg} {fi : Env → M (List Tv × List (Nat × List Tv))} (g : Gd G n N sc W X) (hp : PassesOwn (model X.prog X.w) X.A X.env X.xe) (hi : PI X tg iter (tI G W fi)) (hg : PG X tg (gT G tgt)) (hb : PSs X sts (tS G W q)) (ns : notSet iter = true) :
    PS X (.For tg iter sts [] pos) (tS G W fun env S => match fi env S with
      | .ok w S => forL w.2 tgt q w.1 env S
      | .ex c fs S => .ex c fs env S
      | .bad => .bad) := by
  refine PS.imp (ps_for hp g.calm hi hg hb (fold_no ns)) fun D σ H ⟨env, S, ν, μ, r, z⟩ => ?_
  refine ⟨env, S, ν, μ, r, (FinS.go (.refl r.st) r.en z).mono fun J H1 ⟨w, S1, ν1, μ1, a1, it, z1⟩ => ?_⟩
  obtain ⟨ts, w⟩ := w
  simp only at it z1
  refine ⟨fun i m σ4 H4 => m = ts.length - i ∧ i ≤ ts.length ∧ ∃ env4 S4 ν4 μ4, Af G ν1 μ1 H1 ν4 μ4 S4 H4 ∧ EnR G ν4 μ4 H4 env4 σ4 ∧ FinS G W ν μ H (forL w tgt q (ts.drop i) env4 S4) D, ⟨ts.length, rfl, Nat.zero_le _, env, S1, ν1, μ1, .refl a1.st, r.en.af a1, z1⟩, ?_⟩
  rintro i m σ4 H4 ⟨rfl, hi', env4, S4, ν4, μ4, a4, r4, z4⟩
  by_cases hlt : i < ts.length
  · have e1 : ts.drop i = ts[i] :: ts.drop (i + 1) := List.drop_eq_getElem_cons hlt
    rw [e1] at z4
    simp only [forL] at z4
    split at z4
    case isFalse => exact z4.elim
    rename_i hst
    obtain ⟨hgo, hy⟩ := it.go i ν4 μ4 S4 H4 a4.al hst hlt
    refine .inr ⟨hgo, fun σ' H' => ∃ m', m' < ts.length - i ∧ (m' = ts.length - (i + 1) ∧ i + 1 ≤ ts.length ∧ ∃ env4 S4 ν4 μ4, Af G ν1 μ1 H1 ν4 μ4 S4 H' ∧ EnR G ν4 μ4 H' env4 σ' ∧ FinS G W ν μ H (forL w tgt q (ts.drop (i + 1)) env4 S4) D), fun _ _ w => w, fun x H5 y => ?_⟩
    obtain ⟨t, et, a5, d5, _⟩ := hy x H5 y
    rw [List.getElem?_eq_getElem hlt] at et
    cases et
    cases es : setTg tgt ts[i] env4 with
    | none => rw [es] at z4; exact z4.elim
    | some e =>
      rw [es] at z4
      refine ⟨ts[i], env4, ν4, μ4, e, r4.af a5, d5, es, fun σ2 r2 _ => ⟨e, S4, ν4, μ4, ⟨a5.st, r2⟩, ?_⟩⟩
      have ab := (a1.trans a4).trans a5
      have ab4 := a4.trans a5
      cases eq : q e S4 with
      | nx e' S' => simp only [eq] at z4; exact fun σ' H' ν' μ' b r' => ⟨_, by omega, rfl, hlt, e', S', ν', μ', ab4.trans b, r', z4⟩
      | ct e' S' => simp only [eq] at z4; exact fun σ' H' ν' μ' b r' => ⟨_, by omega, rfl, hlt, e', S', ν', μ', ab4.trans b, r', z4⟩
      | bk e' S' => simp only [eq] at z4; exact fun σ' H' ν' μ' b r' => z4 σ' H' ν' μ' (ab.trans b) r'
      | rt t S' => simp only [eq] at z4; exact fun v H' ν' μ' b r' => z4 v H' ν' μ' (ab.trans b) r'
      | ex c fs e' S' => simp only [eq] at z4; exact fun cls d σ' H' ν' μ' b r' x => z4 cls d σ' H' ν' μ' (ab.trans b) r' x
      | bad => simp only [eq] at z4; exact z4
  · have e : i = ts.length := by omega
    subst e
    rw [List.drop_length] at z4
    simp only [forL] at z4
    split at z4
    case isFalse => exact z4.elim
    rename_i hst
    exact .inl ⟨it.stop _ _ _ _ _ a4.al hst rfl, z4 σ4 H4 ν4 μ4 (a1.trans a4) r4⟩
end
end Mp
namespace Mp
open PySem L2 PySem.Spec PyProof.Rows
/-! ### the store cut back -/
section
variable {G : Wd} {ν μ ν' μ' ν0 : List Addr} {H H' H0 : Hp} {S S' : Sto}
theorem pre_at {n : Nat} {a : Addr} (p : μ <+: μ') (h0 : ∃ b, μ[n]? = some b) (h : μ'[n]? = some a) : μ[n]? = some a := by
  obtain ⟨b, hb⟩ := h0
  obtain ⟨r, rfl⟩ := p
  rw [List.getElem?_append_left (List.getElem?_eq_some_iff.mp hb).1] at h
  exact h
mutual
/-- a tree that stood ahead names places of then alone -/
theorem Dn.cut (p : μ <+: μ') : ∀ (t : Tv) (v v0 : V), Dn G ν0 μ H0 t v0 → Dn G ν' μ' H' t v → Dn G ν' μ H' t v
  | .non, _, _, _, h => h
  | .bl _, _, _, _, h => h
  | .int _, _, _, _, h => h
  | .str _, _, _, _, h => h
  | .tup ts, v, v0, h0, h => by
    simp only [Dn] at h h0 ⊢
    obtain ⟨a, vs, e, f, d⟩ := h
    obtain ⟨_, ws, _, _, d0⟩ := h0
    exact ⟨a, vs, e, f, Dns.cut p ts vs ws d0 d⟩
  | .lst ts, v, v0, h0, h => by
    simp only [Dn] at h h0 ⊢
    obtain ⟨a, vs, e, f, d⟩ := h
    obtain ⟨_, ws, _, _, d0⟩ := h0
    exact ⟨a, vs, e, f, Dns.cut p ts vs ws d0 d⟩
  | .dct, _, _, _, h => h
  | .scr ts, v, v0, h0, h => by
    simp only [Dn] at h h0 ⊢
    obtain ⟨a, vs, e, f, d⟩ := h
    obtain ⟨_, ws, _, _, d0⟩ := h0
    exact ⟨a, vs, e, f, Dns.cut p ts vs ws d0 d⟩
  | .ins c fs, v, v0, h0, h => by
    simp only [Dn] at h h0 ⊢
    obtain ⟨a, dx, C, vs, e, n, q, g, m, d⟩ := h
    obtain ⟨_, _, _, ws, _, _, _, _, _, d0⟩ := h0
    exact ⟨a, dx, C, vs, e, n, q, g, m, Dns.cut p fs _ _ d0 d⟩
  | .cell n, v, v0, h0, h => by
    simp only [Dn] at h h0 ⊢
    obtain ⟨a, e, q⟩ := h
    obtain ⟨b, _, q0⟩ := h0
    exact ⟨a, e, pre_at p ⟨b, q0⟩ q⟩
theorem Dns.cut (p : μ <+: μ') : ∀ (ts : List Tv) (vs ws : List V), Dns G ν0 μ H0 ts ws → Dns G ν' μ' H' ts vs → Dns G ν' μ H' ts vs
  | [], _, _, _, h => h
  | t :: r, vs, ws, h0, h => by
    simp only [Dns] at h h0 ⊢
    obtain ⟨v, vr, e, d1, d2⟩ := h
    obtain ⟨w, wr, _, d3, d4⟩ := h0
    exact ⟨v, vr, e, Dn.cut p t v w d3 d1, Dns.cut p r vr wr d4 d2⟩
end
theorem StR.cut (s0 : StR G ν μ S H) (s : StR G ν' μ' S' H') (p : μ <+: μ') (e : S'.take S.length = S) : StR G ν' μ S H' := by
  have mem : ∀ a ∈ μ, a ∈ μ' := fun a ha => p.subset ha
  refine ⟨s0.len, s0.nd, fun a ha => s.sub a (mem a ha), s.trk, fun n o h => ?_⟩
  have hn : n < S.length := (List.getElem?_eq_some_iff.mp h).1
  have h' : S'[n]? = some o := by
    rw [← e, List.getElem?_take_of_lt hn] at h
    exact h
  obtain ⟨a0, e0, r0⟩ := s0.ob n o h
  obtain ⟨a, e1, r⟩ := s.ob n o h'
  have e2 := pre_at p ⟨a0, e0⟩ e1
  refine ⟨a, e2, ?_⟩
  cases o with
  | lst ts =>
    obtain ⟨vs, q, d⟩ := r
    obtain ⟨ws, _, d0⟩ := r0
    exact ⟨vs, q, Dns.cut p ts vs ws d0 d⟩
  | ins c fs =>
    obtain ⟨dx, C, vs, q, g, m, d⟩ := r
    obtain ⟨_, _, ws, _, _, _, d0⟩ := r0
    exact ⟨dx, C, vs, q, g, m, Dns.cut p fs _ _ d0 d⟩
  | dct kvs =>
    obtain ⟨ks, q, d1, d2⟩ := r
    obtain ⟨ws, _, d3, d4⟩ := r0
    exact ⟨ks, q, Dns.cut p _ _ _ d3 d1, Dns.cut p _ _ _ d4 d2⟩
theorem Af.cut (s0 : StR G ν μ S H) (a : Af G ν μ H ν' μ' S' H') (e : S'.take S.length = S) : Af G ν μ H ν' μ S H' :=
  ⟨a.kp, List.prefix_refl _, s0.cut a.st a.pre e, fun _ h => .inl h, a.lk⟩
end
/-! ### objects that do not change: fields, properties, making -/
/-- the class c of the world: its place, its fields -/
structure ClG (G : Wd) (c : Nat) (C : Addr) : Prop where
  at' : G.mg (G.cls c).1 = some (.ref C)
  cl : Cls G.K C
  nd : (G.cls c).2.Nodup
  no : ∀ f ∈ (G.cls c).2, NoAttr G.K C f
  sm : (G.cls c).2.length < 1000
section
variable {G : Wd} {X : Cx} {W : WX} {n : Nat} {N : List Str} {sc : Scope} {ν μ : List Addr} {H : Hp} {S : Sto}
theorem lookup_at : ∀ {vs : List (Str × V)} {i : Nat} {f : Str} {w : V}, (vs.map (·.1)).Nodup → vs[i]? = some (f, w) → vs.lookup f = some w
  | [], i, f, w, _, h => by simp at h
  | (g, u) :: vs, 0, f, w, _, h => by
    simp only [List.getElem?_cons_zero, Option.some.injEq, Prod.mk.injEq] at h
    obtain ⟨rfl, rfl⟩ := h
    simp [List.lookup]
  | (g, u) :: vs, i + 1, f, w, nd, h => by
    simp only [List.getElem?_cons_succ] at h
    obtain ⟨h1, h2⟩ := List.nodup_cons.mp nd
    have ne : f ≠ g := fun z => h1 (List.mem_map.mpr ⟨(f, w), List.mem_of_getElem? h, z⟩)
    have : (f == g) = false := by simpa using ne
    simp only [List.lookup, this]
    exact lookup_at h2 h
theorem s_att {c i : Nat} {C : Addr} {f : Str} {e : Expr} {pos : Pos} {a : Env → M Tv} (g : Gd G n N sc W X) (cl : ClG G c C) (hf : (G.cls c).2[i]? = some f) (ha : PE X e (tE G W a)) (hb : attributeBase e f X.env (eval e X.env) = eval e X.env) :
    PE X (.Attribute e f pos) (tE G W fun env => bnd (a env) fun x S => opt (attV c i x) S) := by
  refine PE.imp (pe_fld ha hb) fun σ H Q h => ?_
  refine tE.one h fun S ν μ v H' t s d z => ?_
  cases t with
  | ins c' fs =>
    simp only [attV] at z
    by_cases hc : c' = c
    · subst hc
      rw [if_pos rfl] at z
      cases ht : fs[i]? with
      | none => rw [ht] at z; exact z.elim
      | some t =>
        rw [ht] at z
        simp only [Dn] at d
        obtain ⟨p, dx, C', vs, rfl, hp, ho, hg, hm, dd⟩ := d
        rw [cl.at'] at hg
        cases hg
        obtain ⟨w, hw, dw⟩ := dd.get ht
        rw [List.getElem?_map] at hw
        obtain ⟨y, hy, ey⟩ := Option.map_eq_some_iff.mp hw
        obtain ⟨f', w'⟩ := y
        have ey : w' = w := ey
        subst ey
        have ef : f' = f := by
          have q : (vs.map (·.1))[i]? = some f' := by rw [List.getElem?_map, hy]; rfl
          rw [hm, hf] at q
          exact (Option.some.inj q).symm
        subst ef
        refine ⟨p, C, dx, vs, w', rfl, ho, by rw [g.iw.K]; exact cl.cl, by rw [g.iw.K]; exact cl.no _ (List.mem_of_getElem? hf), lookup_at (by rw [hm]; exact cl.nd) hy, Fin.ok z s dw⟩
    · rw [if_neg hc] at z; exact z.elim
  | _ => exact z.elim
/-- a property's getter at an object: nothing is raised -/
theorem get_G {k : Nat} {C p q a dx : Addr} {fs : List (Str × V)} {f : Str} {fd : FuncData} {ps : List Str} {sp : Sp} {pins : List (Addr × Obj)} {σ : L2.St} {s : Shared} {Q : VK} {b : Bool} {E' : Value → Shared → Prop}
    (Iw : InW G X) (I : Inv X pins σ H s) (ea : H a = some (.ins C dx fs)) (c : Cls G.K C) (hp : PropOf G.K C f p q) (F : FnG G k q fd ps sp) (hr : Room (k + 1) X.A) (hb : Binds G.K fd ps [])
    (h : sp [.ref a] H Q fun _ _ _ => False) : wpAny (model X.prog X.w) X.A (getAttr (.ref a) f b) (EP X pins σ Q) E' s := by
  have O := ins_get I.hok ea
  obtain ⟨mA, O, _⟩ := O
  obtain ⟨od, J, _⟩ := O.look
  obtain ⟨more, hrec⟩ := hp.rec_
  have J1 := I.tok (s.toks + 1)
  have len1 : ([Value.ref a] ++ []).length = ps.length := by rw [← F.len _ _ _ _ h]; rfl
  have isC : (PySem.W.clsIn G.K C).isSome = true := by
    obtain ⟨cd, e, _⟩ := PySem.W.any_some c.hd
    rw [e]; rfl
  have kin := I.kIn
  rw [Iw.K] at kin
  have kin1 := J1.kIn
  rw [Iw.K] at kin1
  have en := J1.env0.in1
  rw [Iw.P, Iw.w, Iw.K, Iw.mg, Iw.base] at en
  have plain := PySem.W.plainGet_of (c.get f)
  have got := F.run X.A.in1 X.stack { s with toks := s.toks + 1 } H ⟨[.ref a], []⟩ [.ref a] [.ref a] Q (fun _ _ _ => False) hr.in1 (by exact Iw.gd) en (hb _ [.ref a] kin1 len1) (.cons rfl .nil) h
  rw [← Iw.P, ← Iw.w] at got
  refine PySem.W.get_bind kin J plain.1 (PySem.W.findObj_data isC hp.at_ hp.get hp.tak) plain.2 (wpAny_call (PySem.W.prop_get (s := { s with toks := s.toks + 1 }) kin hrec (codeAny_mono got fun r s' hq => ?_)))
  match r, hq with
  | .error er, hq =>
    obtain ⟨_, _, _, _, _, _, _, _, _, _, _, _, z⟩ := hq
    exact z.elim
  | .ok (.ret u), hq =>
    obtain ⟨v, H', J3, rv, q3⟩ := J1.after hq
    show wpAny _ _ (handedOut u) _ _ _
    rw [PySem.W.handedOut_of (handed_of rv)]
    exact wpAny_pure ⟨v, H', J3, rv, q3⟩
  | .ok .next, hq => exact hq.elim
  | .ok .brk, hq => exact hq.elim
  | .ok .cont, hq => exact hq.elim
theorem s_prop {k c : Nat} {C p q : Addr} {f : Str} {fd : FuncData} {ps : List Str} {m : List Tv → M Tv} {e : Expr} {pos : Pos} {a : Env → M Tv} (g : Gd G n N sc W X) (cl : ClG G c C) (hp : PropOf G.K C f p q) (F : FnG G k q fd ps (spF G m)) (hr : k + 1 ≤ n) (hb : Binds G.K fd ps [])
    (ha : PE X e (tE G W a)) (hab : attributeBase e f X.env (eval e X.env) = eval e X.env) : PE X (.Attribute e f pos) (tE G W fun env => bnd (a env) fun x => propM c m x) := by
  refine ⟨fun pins s σ H Q I h => ?_⟩
  have h := tE.one (P := fun v H' => ∃ a dx fs, v = .ref a ∧ H' a = some (.ins C dx fs) ∧ spF G m [.ref a] H' Q fun _ _ _ => False) h fun S ν μ v H' t s d z => by
    cases t with
    | ins c' fs =>
      simp only [propM] at z
      by_cases hc : c' = c
      · subst hc
        rw [if_pos rfl] at z
        have d0 := d
        simp only [Dn] at d
        obtain ⟨y, dx, C', vs, rfl, hy, ho, hg, hm, dd⟩ := d
        rw [cl.at'] at hg
        cases hg
        refine ⟨y, dx, vs, rfl, ho, [.ins c' fs], S, ν, μ, s, ?_, ?_⟩
        · simp only [Dns]
          exact ⟨_, _, rfl, d0, rfl⟩
        · cases em : m [.ins c' fs] S with
          | ok t S' => rw [em] at z; exact z
          | ex _ _ _ => rw [em] at z; exact z.elim
          | bad => rw [em] at z; exact z.elim
      · rw [if_neg hc] at z; exact z.elim
    | _ => exact z.elim
  refine attr_of hab (thn (ha.run pins s σ H _ I h) fun u s1 ⟨x, H1, I1, rx, y, dx, fs, ex, ea, z⟩ => ?_)
  subst ex
  obtain rfl : u = Value.ref y := rx
  exact get_G g.iw I1 ea cl.cl hp F (g.room.mono hr) hb z
/-- an object made: its __init__ raises nothing -/
theorem make_G {k j : Nat} {C f : Addr} {fd : FuncData} {ps ks : List Str} {sp : Sp} {gg : List Value → List Value → List Value} {gV : List V → List V → List V} {pins : List (Addr × Obj)} {σ : L2.St} {s : Shared} {Q : VK} {us ws : List Value} {vs zs : List V}
    (Iw : InW G X) (M : Mk G.K C f) (F : FnG G k f fd ps sp) (hr : Room (k + 1) X.A) (hb : KBn G.K fd ps (j + 1) ks gg gV) (I : Inv X pins σ H s) (r : Vals vs us) (rz : Vals zs ws) (l1 : vs.length = j) (l2 : zs.length = ks.length)
    (h : ∀ x dx, H x = none → H dx = none → dx ≠ x → sp (gV (.ref x :: vs) zs) (upd (upd H dx (.own x)) x (.ins C dx [])) (fun v H2 => v = .non ∧ Q (.ref x) H2) fun _ _ _ => False) :
    wpAny (model X.prog X.w) X.A (call (.ref C) us (ks.zip ws)) (EP X pins σ Q) X.xe s := by
  let a := s.heap.objs.size + 1
  have want := h a s.heap.objs.size (I.hok.fresh (Nat.le_succ _)) (I.hok.fresh (Nat.le_refl _)) (Nat.ne_of_lt (Nat.lt_succ_self _))
  have J := Inv.made (C := C) I
  have rr : Vals (V.ref a :: vs) (Value.ref a :: us) := .cons rfl r
  have n1 : (Value.ref a :: us).length = j + 1 := by rw [List.length_cons, ← r.length, l1]
  have kin := I.kIn
  rw [Iw.K] at kin
  have kinJ := J.kIn
  rw [Iw.K] at kinJ
  have en := J.env0.make C us (ks.zip ws)
  rw [Iw.P, Iw.w, Iw.K, Iw.mg, Iw.base] at en
  have got := F.run _ X.stack _ _ ⟨Value.ref a :: us, ks.zip ws⟩ (gg (Value.ref a :: us) ws) _ _ (fun _ _ _ => False) (hr.make C us (ks.zip ws)) (by exact Iw.gd) en (hb.to _ (Value.ref a :: us) ws kinJ n1 (rz.length.symm.trans l2)) (hb.rel rr rz) want
  rw [← Iw.P, ← Iw.w] at got
  refine wpAny_call (make_map (f := f) kin M.makes M.init (beq_iff_eq.mp M.fn) (codeAny_mono got fun z s' hq => ?_))
  match z, hq with
  | .error er, hq =>
    obtain ⟨_, _, _, _, _, _, _, _, _, _, _, _, z⟩ := hq
    exact z.elim
  | .ok (.ret u), hq =>
    obtain ⟨v, H', J3, rv, ev, q3⟩ := J.after hq
    subst ev
    exact ⟨rv, ⟨V.ref a, H', J3, rfl, q3⟩⟩
  | .ok .next, hq => exact hq.elim
  | .ok .brk, hq => exact hq.elim
  | .ok .cont, hq => exact hq.elim
/-- C(e, .., k = v, ..) as a value -/
theorem s_mkG {c k nf j : Nat} {C f : Addr} {fd : FuncData} {ps ks : List Str} {m : List Tv → M Tv} {gg : List Value → List Value → List Value} {x : Str} {p pos : Pos} {e : Expr} {es : List Expr} {kws : List Keyword} {fa fk : Env → M (List Tv)} {gv : List V → List V → List V} {gt : List Tv → List Tv → List Tv}
    (g : Gd G n N sc W X) (cl : ClG G c C) (hnf : (G.cls c).2.length = nf) (M : Mk G.K C f) (F : FnG G k f fd ps (spF G m)) (hr : k + 1 ≤ n) (hb : KBn G.K fd ps (j + 1) ks gg gv)
    (hgv : ∀ (ν μ : List Addr) (H : Hp) (t : Tv) (v : V) (xs ys : List Tv) (vs zs : List V), Dn G ν μ H t v → Dns G ν μ H xs vs → Dns G ν μ H ys zs → Dns G ν μ H (t :: gt xs ys) (gv (v :: vs) zs)) (hg : Gl X x) (hx : (G.cls c).1 = x)
    (ha : PA X (e :: es) (tA G W fa)) (hk : PK X kws (tA G W fk)) (ns : (e :: es).all notStar = true) (hla : ∀ env S xs S', fa env S = .ok xs S' → xs.length = j) (hlk : ∀ env S xs S', fk env S = .ok xs S' → xs.length = ks.length)
    (hall : (backToKw pos (keywordEach kws X.env)).all (·.1.isSome) = true) (hks : (backToKw pos (keywordEach kws X.env)).filterMap (·.1) = ks) (hkn : (backToKw pos (keywordEach kws X.env)).any (·.1.isNone) = false) (hdb : (x == ("__debug__" : Str)) = false) :
    PE X (.Call (.Name x p) (e :: es) kws pos) (tE G W fun env => bnd (fa env) fun xs => bnd (fk env) fun ys => mkM c nf m (gt xs ys)) := by
  refine ⟨fun pins s σ H Q I h => ?_⟩
  have hm : X.mg x = some (.ref C) := by rw [g.iw.mg, ← hx]; exact cl.at'
  have key : tA G W fa σ H fun vs H1 => tA G W fk σ H1 fun zs H2 => vs.length = j ∧ zs.length = ks.length ∧ ∀ y dx, H2 y = none → H2 dx = none → dx ≠ y →
      spF G m (gv (.ref y :: vs) zs) (upd (upd H2 dx (.own y)) y (.ins C dx [])) (fun v H3 => v = .non ∧ Q (.ref y) H3) fun _ _ _ => False := by
    obtain ⟨env, S, ν, μ, r, h⟩ := h
    refine ⟨env, S, ν, μ, r, ?_⟩
    cases e1 : fa env S with
    | bad => simp only [bnd, e1] at h; exact h.elim
    | ex c' fs' S' => simp only [bnd, e1] at h ⊢; exact h
    | ok xs S1 =>
      simp only [bnd, e1] at h
      intro vs H1 ν1 μ1 a1 d1
      refine ⟨env, S1, ν1, μ1, r.af a1, ?_⟩
      have h : Fin G (fun c d H' => W c d σ H') (DV G) ν1 μ1 H1 ((fk env S1).bnd fun ys => mkM c nf m (gt xs ys)) Q := Fin.after a1 h
      cases e2 : fk env S1 with
      | bad => rw [e2] at h; exact h.elim
      | ex c' fs' S' => rw [e2] at h; exact h
      | ok ys S2 =>
        rw [e2] at h
        intro zs H2 ν2 μ2 a2 d2
        refine ⟨by rw [← Dns.length d1]; exact hla _ _ _ _ e1, by rw [← Dns.length d2]; exact hlk _ _ _ _ e2, fun y dx hy hdx hne => ?_⟩
        have h : Fin G (fun c d H' => W c d σ H') (DV G) ν2 μ2 H2 (mkM c nf m (gt xs ys) S2) Q := Fin.after a2 h
        have s2 := a2.st
        have hy' : (upd H2 dx (.own y)) y = none := by rw [upd_ne hne.symm]; exact hy
        have sn : StR G ν2 μ2 S2 (upd H2 dx (.own y)) := s2.new1 hdx
        have kpn : Kp ν2 H2 ν2 (upd H2 dx (.own y)) := .new1 hdx
        have obn : ObR G (y :: ν2) (μ2 ++ [y]) (upd (upd H2 dx (.own y)) y (.ins C dx [])) y (.ins c []) := ⟨dx, C, [], upd_same, cl.at', by simp, by simp only [List.map_nil, Dns]⟩
        have sp := sn.place hy' obn
        have kpp : Kp ν2 H2 (y :: ν2) (upd (upd H2 dx (.own y)) y (.ins C dx [])) := kpn.trans (.place hy')
        have yν : y ∉ ν2 := s2.fresh hy
        have yμ : y ∉ μ2 := fun z => yν (s2.sub y z)
        have atY : (μ2 ++ [y])[S2.length]? = some y := by rw [← s2.len]; simp
        refine ⟨.cell S2.length :: gt xs ys, S2 ++ [.ins c []], y :: ν2, μ2 ++ [y], sp, ?_, ?_⟩
        · refine hgv _ _ _ _ _ _ _ _ _ ?_ (Dns.kp kpp (List.prefix_append _ _) _ _ (d1.af a2)) (Dns.kp kpp (List.prefix_append _ _) _ _ d2)
          simp only [Dn]
          exact ⟨y, rfl, atY⟩
        · unfold mkM at h
          cases em : m (.cell S2.length :: gt xs ys) (S2 ++ [.ins c []]) with
          | bad => rw [em] at h; exact h.elim
          | ex _ _ _ => rw [em] at h; exact h.elim
          | ok t S' =>
            rw [em] at h
            cases t with
            | non =>
              simp only at h
              cases eo : S'[S2.length]? with
              | none => rw [eo] at h; exact h.elim
              | some o =>
                cases o with
                | ins d fs =>
                  rw [eo] at h
                  simp only at h
                  by_cases hc : (S'.take S2.length = S2 ∧ d = c) ∧ fs.length = nf ∧ Tv.noCells fs = true
                  · rw [if_pos hc] at h
                    obtain ⟨⟨tk, rfl⟩, hfl, hnc⟩ := hc
                    intro v H' ν' μ' a dv
                    simp only [DV, Dn] at dv
                    refine ⟨dv, ?_⟩
                    obtain ⟨y', ey, dx', C', vs', ho, hg', hm', dd⟩ := a.st.ob _ _ eo
                    obtain ⟨rr, hrr⟩ := a.pre
                    have yy : y' = y := by
                      rw [← hrr, List.getElem?_append_left (by simp [← s2.len]), atY] at ey
                      exact (Option.some.inj ey).symm
                    subst yy
                    rw [cl.at'] at hg'
                    cases hg'
                    have pre2 : μ2 <+: μ' := (List.prefix_append μ2 [y']).trans a.pre
                    have cutS := StR.cut s2 a.st pre2 tk
                    have less : ∀ b ∈ ν'.filter (fun b => decide (b ≠ y')), b ∈ ν' := fun b hb => (List.mem_filter.mp hb).1
                    have ney : ∀ b, b ∈ ν2 → b ≠ y' := fun b hb z => yν (z ▸ hb)
                    have fin : Af G ν2 μ2 H2 (ν'.filter (fun b => decide (b ≠ y'))) μ2 S2 H' := by
                      refine ⟨⟨fun b hb => List.mem_filter.mpr ⟨a.kp.sub b (List.mem_cons_of_mem _ hb), decide_eq_true (ney b hb)⟩, fun b hb => ?_, fun b o hb e => ?_⟩, List.prefix_refl _, cutS.less less fun b hb => List.mem_filter.mpr ⟨cutS.sub b hb, decide_eq_true (ney b (s2.sub b hb))⟩, fun b hb => .inl hb, fun b o hb e => ?_⟩
                      · obtain ⟨hb1, hb2⟩ := List.mem_filter.mp hb
                        have hb2 : b ≠ y' := of_decide_eq_true hb2
                        rcases a.kp.new b hb1 with q | q
                        · rcases List.mem_cons.mp q with z | z
                          · exact absurd z hb2
                          · exact .inl z
                        · rw [upd_ne hb2] at q
                          by_cases hd : b = dx
                          · rw [hd, upd_same] at q; cases q
                          · rw [upd_ne hd] at q; exact .inr q
                      · have n1 : b ≠ y' := ne_of_none e hy
                        have n2 : b ≠ dx := ne_of_none e hdx
                        exact a.kp.keep b o (fun z => by
                          rcases List.mem_cons.mp z with q | q
                          · exact n1 q
                          · exact hb q) (by rw [upd_ne n1, upd_ne n2]; exact e)
                      · have n1 : b ≠ y' := ne_of_none e hy
                        have n2 : b ≠ dx := ne_of_none e hdx
                        exact a.lk b o (fun z => by
                          rcases List.mem_append.mp z with q | q
                          · exact hb q
                          · exact n1 (List.mem_singleton.mp q)) (by rw [upd_ne n1, upd_ne n2]; exact e)
                    refine h (.ref y') H' _ μ2 fin ?_
                    simp only [DV, Dn]
                    refine ⟨y', dx', C, vs', rfl, fun z => by simpa using (List.mem_filter.mp z).2, ho, cl.at', ?_, Dns.pure _ _ hnc (Dns.less less _ _ dd)⟩
                    rw [hm', hfl, ← hnf, List.take_length]
                  · rw [if_neg hc] at h; exact h.elim
                | _ => rw [eo] at h; exact h.elim
            | _ => exact h.elim
  refine wpAny_Call_Name_kw (ld_glob I hg hm ?_ hdb)
  have ns' : notStar e = true ∧ es.all notStar = true := by simpa using ns
  have plain : ((backTo pos (starEach (e :: es) X.env)).any (·.1) || (backToKw pos (keywordEach kws X.env)).any (·.1.isNone)) = false := by
    rw [star_any ns, hkn]
    rfl
  have kp : PySem.W.keepIn X.K (.ref C) = true := by rw [g.iw.K]; exact M.kp
  refine PySem.W.callWith_KW (h₀ := X.base) I.ok.mod.kin kp hall (thn (ha.run pos pins s σ H _ I key) fun us s1 ⟨vs, H1, I1, r, q⟩ => ?_) plain (star_cons ns'.1 es)
  refine thn (hk.run pos pins s1 σ H1 _ I1 q) fun ws s2 ⟨zs, H2, I2, rz, l1, l2, q2⟩ => ⟨I2.kIn, ?_⟩
  rw [hks]
  exact make_G g.iw M F (g.room.mono hr) hb I2 r rz l1 l2 q2
theorem s_mk {c k nf j : Nat} {C f : Addr} {fd : FuncData} {ps ks : List Str} {m : List Tv → M Tv} {gg : List Value → List Value → List Value} {x : Str} {p pos : Pos} {e : Expr} {es : List Expr} {kws : List Keyword} {fa fk : Env → M (List Tv)}
    (g : Gd G n N sc W X) (cl : ClG G c C) (hnf : (G.cls c).2.length = nf) (M : Mk G.K C f) (F : FnG G k f fd ps (spF G m)) (hr : k + 1 ≤ n) (hb : KBn G.K fd ps (j + 1) ks gg (fun vs zs => vs ++ zs)) (hg : Gl X x) (hx : (G.cls c).1 = x)
    (ha : PA X (e :: es) (tA G W fa)) (hk : PK X kws (tA G W fk)) (ns : (e :: es).all notStar = true) (hla : ∀ env S xs S', fa env S = .ok xs S' → xs.length = j) (hlk : ∀ env S xs S', fk env S = .ok xs S' → xs.length = ks.length)
    (hall : (backToKw pos (keywordEach kws X.env)).all (·.1.isSome) = true) (hks : (backToKw pos (keywordEach kws X.env)).filterMap (·.1) = ks) (hkn : (backToKw pos (keywordEach kws X.env)).any (·.1.isNone) = false) (hdb : (x == ("__debug__" : Str)) = false) :
    PE X (.Call (.Name x p) (e :: es) kws pos) (tE G W fun env => bnd (fa env) fun xs => bnd (fk env) fun ys => mkM c nf m (xs ++ ys)) :=
  s_mkG g cl hnf M F hr hb (gt := fun xs ys => xs ++ ys) (fun ν μ H t v xs ys vs zs d0 d1 d2 => by
    simp only [Dns, List.cons_append]
    exact ⟨_, _, rfl, d0, d1.append d2⟩) hg hx ha hk ns hla hlk hall hks hkn hdb
theorem set_same {α : Type} : ∀ {xs : List α} {i : Nat} {x : α}, xs[i]? = some x → xs.set i x = xs
  | [], i, x, h => by simp at h
  | y :: xs, 0, x, h => by
    have e : y = x := by simpa using h
    rw [e]
    rfl
  | y :: xs, i + 1, x, h => by
    rw [List.set_cons_succ, set_same (by simpa using h)]
theorem putF_new {f : Str} {y : V} : ∀ {vs : List (Str × V)}, f ∉ vs.map (·.1) → putF f y vs = vs ++ [(f, y)]
  | [], _ => rfl
  | (g, u) :: vs, h => by
    have h1 : g ≠ f := fun z => h (by simp [z])
    have h2 : f ∉ vs.map (·.1) := fun z => h (by simp only [List.map_cons]; exact List.mem_cons_of_mem _ z)
    show (if g = f then (g, y) :: vs else (g, u) :: putF f y vs) = _
    rw [if_neg h1, putF_new h2]
    rfl
theorem putF_old {f : Str} {y : V} : ∀ {vs : List (Str × V)} {i : Nat}, (vs.map (·.1)).Nodup → (vs.map (·.1))[i]? = some f → putF f y vs = vs.set i (f, y)
  | [], i, _, h => by simp at h
  | (g, u) :: vs, 0, _, h => by
    have e : g = f := by simpa using h
    show (if g = f then (g, y) :: vs else (g, u) :: putF f y vs) = _
    rw [if_pos e, e]
    rfl
  | (g, u) :: vs, i + 1, nd, h => by
    obtain ⟨h1, h2⟩ := List.nodup_cons.mp nd
    have h' : (vs.map (·.1))[i]? = some f := by simpa using h
    have ne : g ≠ f := fun z => h1 (by rw [z]; exact List.mem_of_getElem? h')
    show (if g = f then (g, y) :: vs else (g, u) :: putF f y vs) = _
    rw [if_neg ne, putF_old h2 h']
    rfl
theorem Af.obj {m : Nat} {q : Addr} {u : Ob} {o : HO} (s : StR G ν μ S H) (hq : μ[m]? = some q) (new : ObR G ν μ (upd H q o) q u) : Af G ν μ H ν μ (S.set m u) (upd H q o) :=
  ⟨.write (s.sub q (List.mem_of_getElem? hq)), List.prefix_refl _, s.write hq new, fun _ h => .inl h, fun a u n e => by rw [upd_ne (fun z => n (by rw [z]; exact List.mem_of_getElem? hq))]; exact e⟩
/-- o.f = e, o at a place -/
theorem s_setAtt {c i : Nat} {C : Addr} {f : Str} {o a : Expr} {pos pos' : Pos} {ho ha : Env → M Tv} (g : Gd G n N sc W X) (cl : ClG G c C) (hf : (G.cls c).2[i]? = some f) (ho' : PE X o (tE G W ho)) (ha' : PE X a (tE G W ha))
    (hs : swapsWith a (some (.Attribute o f pos')) pos.line X.env = pure false) :
    PS X (.Assign [.Attribute o f pos'] a pos) (tS G W fun env S => srOf (ha env S) env fun t S => srOf (ho env S) env fun x S => match setAttM c i x t S with
      | some S' => .nx env S'
      | none => .bad) := by
  refine PS.imp (ps_fld ho' ha' hs) fun D σ H ⟨env, S, ν, μ, r, z⟩ => ?_
  refine ⟨env, S, ν, μ, r, (FinS.expr (.refl r.st) r.en z).mono fun v H1 ⟨t, S1, ν1, μ1, a1, d1, z⟩ => ?_⟩
  refine ⟨env, S1, ν1, μ1, r.af a1, (FinS.expr a1 (r.en.af a1) z).mono fun x H2 ⟨tx, S2, ν2, μ2, a2, d2, z⟩ => ?_⟩
  cases e : setAttM c i tx t S2 with
  | none => rw [e] at z; exact z.elim
  | some S' =>
    rw [e] at z
    unfold setAttM at e
    cases tx with
    | cell m =>
      simp only at e
      cases eo : S2[m]? with
      | none => rw [eo] at e; cases e
      | some ob =>
        cases ob with
        | ins d fs =>
          rw [eo] at e
          simp only at e
          by_cases hc : d = c ∧ i ≤ fs.length
          · rw [if_pos hc] at e
            obtain ⟨rfl, hi⟩ := hc
            cases e
            simp only [Dn] at d2
            obtain ⟨p, rfl, hp⟩ := d2
            obtain ⟨dx, C', vs, hh, hg, hm, dd⟩ := a2.st.at eo hp
            rw [cl.at'] at hg
            cases hg
            have d1' := d1.af a2
            have lv : vs.length = fs.length := by
              have := dd.length
              rw [List.length_map] at this
              exact this.symm
            have lt : fs.length ≤ (G.cls d).2.length := by
              have := congrArg List.length hm
              rw [List.length_map, List.length_take, lv] at this
              omega
            have hin : i < (G.cls d).2.length := (List.getElem?_eq_some_iff.mp hf).1
            refine ⟨p, C, dx, vs, rfl, hh, by rw [g.iw.K]; exact cl.cl, by rw [g.iw.K]; exact cl.no _ (List.mem_of_getElem? hf), by have := cl.sm; omega, ?_⟩
            have knd : (vs.map (·.1)).Nodup := by rw [hm]; exact (List.take_sublist _ _).nodup cl.nd
            have kw : Kp ν2 H2 ν2 (upd H2 p (.ins C dx (putF f v vs))) := .write (a2.st.sub p (List.mem_of_getElem? hp))
            have new : ObR G ν2 μ2 (upd H2 p (.ins C dx (putF f v vs))) p (.ins d (if i = fs.length then fs ++ [t] else fs.set i t)) := by
              by_cases q : i = fs.length
              · subst q
                have nf : f ∉ vs.map (·.1) := fun zz => by
                  rw [hm] at zz
                  obtain ⟨k, hk, ek⟩ := List.mem_iff_getElem.mp zz
                  rw [List.length_take] at hk
                  rw [List.getElem_take] at ek
                  have hk2 : k < fs.length := by omega
                  have e2 : (G.cls d).2[fs.length]'hin = f := by
                    have := List.getElem?_eq_getElem hin
                    rw [hf] at this
                    exact (Option.some.inj this).symm
                  have := (List.getElem_inj cl.nd).mp (ek.trans e2.symm)
                  omega
                rw [if_pos rfl]
                refine ⟨dx, C, vs ++ [(f, v)], by rw [upd_same, putF_new nf], cl.at', ?_, ?_⟩
                · rw [List.map_append, hm, List.length_append]
                  show _ ++ [f] = (G.cls d).2.take (fs.length + 1)
                  rw [List.take_succ, hf]
                  rfl
                · rw [List.map_append]
                  refine (Dns.kp kw (List.prefix_refl _) _ _ dd).append ?_
                  simp only [Dns, List.map_cons, List.map_nil]
                  exact ⟨_, _, rfl, d1'.kp kw (List.prefix_refl _), rfl⟩
              · rw [if_neg q]
                have hi2 : i < fs.length := by omega
                have at1 : (vs.map (·.1))[i]? = some f := by rw [hm, List.getElem?_take_of_lt hi2]; exact hf
                refine ⟨dx, C, vs.set i (f, v), by rw [upd_same, putF_old knd at1], cl.at', ?_, ?_⟩
                · rw [List.map_set, List.length_set, ← hm]
                  exact set_same at1
                · rw [List.map_set]
                  exact Dns.set i (Dns.kp kw (List.prefix_refl _) _ _ dd) (Dn.kp kw (List.prefix_refl _) _ _ d1')
            have ak := Af.obj a2.st hp new
            exact z σ _ ν2 μ2 ((a1.trans a2).trans ak) (((r.en.af a1).af a2).af ak)
          · rw [if_neg hc] at e; cases e
        | _ => rw [eo] at e; cases e
    | _ => cases e
/-- a statement of which nothing is told -/
theorem s_wall {st : Stmt} {q : Env → Sto → Sr} (h : ∀ env S, q env S = .bad) : PS X st (tS G W q) := by
  refine ⟨fun pins s σ H D I z => ?_⟩
  obtain ⟨env, S, ν, μ, r, z⟩ := z
  rw [h] at z
  exact z.elim
end
end Mp
namespace Mp
open PySem L2 PySem.Spec PyProof.Rows
/-! ### min with a default; what is never told -/
section
variable {G : Wd} {n : Nat} {N : List Str} {sc : Scope} {W : WX} {X : Cx} {a b : Expr} {f h : Env → M Tv} {p pos kp : Pos}
def rMinK (K : PySem.W.Frag) : List V → List V → Hp → VK → Prop := fun vs zs H Q => ∃ (a : Addr) (ns : List Int) (d : V), vs = [V.ref a] ∧ zs = [d] ∧ SqL K H a (ns.map V.int) ∧ Q (match ns with
  | [] => d
  | n :: r => .int (leastOf (n :: r))) H
theorem cr_minK (hc : X.calm = true) (hu : X.A.units + 64 < cLine) : CallRK X (.builtin "min") [Str.ofString "default"] (rMinK X.K) := by
  intro pins s σ H xs zs us ws Q I r rz z
  obtain ⟨a, ns, d, rfl, rfl, hs, q⟩ := z
  obtain ⟨its, rv, hl, _⟩ := I.list hs
  rw [Vals.ref1 r]
  cases rz with
  | cons r2 t2 =>
    cases t2
    refine PySem.W.min_list_datum_default (α := Int) (I.ok.hd hc) hl.isList (holdInts rv.ints) (by show X.A.units + 1 + 0 < cLine; omega) (fun e h' tk hk => ?_) fun y ys i v h' tk e _ hv hk => ?_
    · subst e
      exact ⟨d, H, I.kept hk, r2, q⟩
    · subst e
      obtain ⟨t, rfl⟩ := holds_int hv
      exact ⟨.int _, H, I.kept hk, ⟨t, rfl⟩, q⟩
theorem s_minD (g : Gd G n N sc W X) (hg : Gl X "min") (hm : G.mg "min" = none) (ha : PE X a (tE G W f)) (hb : PE X b (tE G W h)) (ns : notStar a = true) :
    PE X (.Call (.Name "min" p) [a] [⟨some "default", b, kp⟩] pos) (tE G W fun env => bnd (f env) fun x => bnd (h env) fun y S => opt (minDV S x y) S) := by
  refine PE.imp (pe_callBK (cr_minK g.calm g.hu) hg (by rw [g.iw.mg]; exact hm) boot_min (pa_cons ha pa_nil (hs := star_cons ns [])) (pk_cons hb pk_nil) (he := by rw [star_cons ns]; rfl) (hpl := star_any (by simpa using ns))) fun σ H Q z => ?_
  refine z.two fun S ν μ v w H' t u s d1 d2 y => ?_
  obtain ⟨r, e, y1⟩ := y.opt
  obtain ⟨ts, h1, h2⟩ := Option.bind_eq_some_iff.mp (show (lstOf S t).bind _ = some r from e)
  obtain ⟨ns, h3, h4⟩ := Option.map_eq_some_iff.mp h2
  obtain ⟨q, vs, ex, hq, d⟩ := lst_of s d1 h1
  have ev := ints_of d h3
  subst ev
  refine ⟨q, ns, w, by rw [ex], rfl, .inl (.inl hq), ?_⟩
  cases ns with
  | nil =>
    subst h4
    exact y1.val s d2
  | cons m r =>
    subst h4
    exact y1.val s dn_int
/-- xs[lo:hi] as a list of one's own -/
theorem s_cutL {lo hi : Option Expr} {l u : Env → M (Option Int)} (g : Gd G n N sc W X) (ha : PE X a (tE G W f)) (hl : PO X lo (tO G W l)) (hu : PO X hi (tO G W u)) :
    PE X (.Subscript a (.Slice lo hi none p) pos) (tL G W fun env => bnd (f env) fun x => bnd (l env) fun i => bnd (u env) fun j S => opt (cutLV S x i j) S) := by
  refine PE.imp (pe_slice sl_list ha hl hu) fun σ H Q ⟨env, S, ν, μ, r, z⟩ => ?_
  refine ⟨env, S, ν, μ, r, ?_⟩
  simp only [bnd] at z
  cases e1 : f env S with
  | bad => rw [e1] at z; exact z.elim
  | ex c fs S1 => rw [e1] at z; exact z
  | ok t S1 =>
    rw [e1] at z
    intro v H1 ν1 μ1 a1 d1
    simp only [Rs.bnd, bnd] at z
    refine ⟨env, S1, ν1, μ1, r.af a1, ?_⟩
    cases e2 : l env S1 with
    | bad => rw [e2] at z; exact z.elim
    | ex c fs S2 => rw [e2] at z; exact fun cls d H2 ν2 μ2 b x => z cls d H2 ν2 μ2 (a1.trans b) x
    | ok i S2 =>
      rw [e2] at z
      intro i' H2 ν2 μ2 a2 d2
      have d2 : i = i' := d2
      subst d2
      simp only [Rs.bnd, bnd] at z
      refine ⟨env, S2, ν2, μ2, (r.af a1).af a2, ?_⟩
      cases e3 : u env S2 with
      | bad => rw [e3] at z; exact z.elim
      | ex c fs S3 => rw [e3] at z; exact fun cls d H3 ν3 μ3 b x => z cls d H3 ν3 μ3 ((a1.trans a2).trans b) x
      | ok j S3 =>
        rw [e3] at z
        intro j' H3 ν3 μ3 a3 d3
        have d3 : j = j' := d3
        subst d3
        simp only [Rs.bnd, bnd] at z
        cases e4 : cutLV S3 t i j with
        | none => rw [e4] at z; exact z.elim
        | some ts =>
          rw [e4] at z
          obtain ⟨us, h1, h2⟩ := Option.map_eq_some_iff.mp (show (lstOf S3 t).map (fun ts => cutL ts i j) = some ts from e4)
          obtain ⟨q, vs, ex, hq, d⟩ := lst_of a3.st ((d1.af a2).af a3) h1
          subst h2
          have b := (a1.trans a2).trans a3
          refine ⟨q, vs, ex, .inl (.inl hq), fun y hy => ?_⟩
          obtain ⟨n1, n2, n3⟩ := new_none a3.st b.kp hy
          have a4 := Af.place0 (vs := L2.cutV vs i j) a3.st hy
          exact z (.ref y) _ _ _ (b.trans a4) ⟨y, _, rfl, List.mem_cons_self, fun m => n1 (a3.st.sub y m), n2, n3, upd_same, Dns.af a4 (cut_dns d)⟩
theorem s_dct0 {pos : Pos} : PE X (.Dict [] [] pos) (tE G W fun _ => ret .dct) := by
  refine PE.imp pe_dnewK fun σ H Q ⟨env, S, ν, μ, r, z⟩ => ?_
  intro p hp
  refine z (.ref p) _ ν μ (Af.new1 r.st hp) ?_
  simp only [Dn]
  exact ⟨p, rfl, r.st.fresh hp, upd_same⟩
theorem s_wallE {x : Expr} : PE X x (tE G W fun _ => bad) ∧ PT X x (tT G W fun _ => bad) :=
  ⟨⟨fun pins s σ H Q I z => by obtain ⟨env, S, ν, μ, r, z⟩ := z; exact z.elim⟩, ⟨fun pins s σ H Q I z => by obtain ⟨env, S, ν, μ, r, z⟩ := z; exact z.elim⟩⟩
end
end Mp
/-! ### a tuple, the last item first -/
namespace Mp
open PySem L2 PySem.Spec PyProof.Rows
open PySem.W (krv_all krv_range)
theorem back_adj (n : Nat) : Builtin.Slice.sliceAdjust none none (-1) (n : Int) = ((n : Int) - 1, -1) := by
  unfold Builtin.Slice.sliceAdjust
  have h1 : ((-1 : Int) < 0) = True := by simp
  simp only [h1, if_true]
theorem back_many (n : Nat) : Builtin.Slice.slicePlaces ((n : Int) - 1) (-1) (-1) = n := by
  unfold Builtin.Slice.slicePlaces
  rw [if_neg (by decide)]
  by_cases h : (n : Int) - 1 > -1
  · rw [if_pos h, show (-(-1) : Int) = 1 by decide, Int.ediv_one]; omega
  · rw [if_neg h]; omega
theorem back_items (zs : Array Value) : ((List.range zs.size).filterMap fun (m : Nat) => zs[((zs.size : Int) - 1 + (m : Int) * -1).toNat]?).toArray = zs.toList.reverse.toArray := by
  have e : ((List.range zs.size).filterMap fun (m : Nat) => zs[((zs.size : Int) - 1 + (m : Int) * -1).toNat]?) = ((List.range zs.size).map fun k => zs.size - 1 - k).filterMap (zs[·]?) := by
    rw [List.filterMap_map]
    refine congrArg (fun g => List.filterMap g _) (funext fun m => ?_)
    show _ = zs[zs.size - 1 - m]?
    by_cases h : m ≤ zs.size - 1 ∧ 0 < zs.size
    · have : ((zs.size : Int) - 1 + (m : Int) * -1).toNat = zs.size - 1 - m := by omega
      rw [this]
    · have : ((zs.size : Int) - 1 + (m : Int) * -1).toNat = zs.size - 1 - m := by omega
      rw [this]
  rw [e, krv_range, List.filterMap_reverse, krv_all]
section
variable {prog : Program} {w : World} {A : Around} {E : Value → Shared → Prop} {s : Shared}
theorem back_slice {b : Addr} {u : Tok} {n : Nat} {Q : Int × Int × Nat → Shared → Prop} (hb : s.heap.IsSliceOf b .none .none (.int (-1) u)) (q : Q ((n : Int) - 1, -1, n) s) :
    wpAny (model prog w) A (Builtin.Slice.sliceApplied (.ref b) (pure (n : Int))) Q E s := by
  obtain ⟨ob, gb, cb, db⟩ := hb
  unfold Builtin.Slice.sliceApplied Builtin.Slice.sliceFields
  refine wpAny_bind (wpAny_bind (wpAny_field gb db (x := .none) rfl (wpAny_bind (wpAny_field gb db (x := .none) rfl (wpAny_bind (wpAny_field gb db (x := .int (-1) u) rfl (wpAny_pure ?_)))))))
  refine wpAny_bind (slicePart_int ?_)
  show wpAny _ _ (if ((-1 : Int) == 0) = true then _ else _) _ _ s
  rw [if_neg (by decide)]
  refine wpAny_bind (slicePart_none (wpAny_bind (slicePart_none (wpAny_bind (wpAny_pure ?_)))))
  show wpAny _ _ (match Builtin.Slice.sliceAdjust none none (-1) (n : Int) with | (lo, hi) => pure (lo, (-1 : Int), Builtin.Slice.slicePlaces lo hi (-1))) _ _ s
  rw [back_adj n]
  show wpAny _ _ (pure ((n : Int) - 1, (-1 : Int), Builtin.Slice.slicePlaces ((n : Int) - 1) (-1) (-1))) _ _ s
  rw [back_many]
  exact wpAny_pure q
theorem back_item {t b : Addr} {zs : Array Value} {u : Tok} {Q : Value → Shared → Prop} (gt : IsTup s.heap t zs) (gb : s.heap.IsSliceOf b .none .none (.int (-1) u)) (hz : zs.size ≤ sizeLine)
    (q : Q (.ref s.heap.objs.size) { s with heap := s.heap.push { cls := .type "tuple", data := .seq zs.toList.reverse.toArray } }) : wpAny (model prog w) A (getItem (.ref t) (.ref b)) Q E s := by
  have fit : sizeOk (.seq zs.toList.reverse.toArray) := by
    show zs.toList.reverse.toArray.size ≤ sizeLine
    simpa using hz
  have tb : s.TypeIs (.ref b) "slice" := let ⟨ob, h1, h2, _⟩ := gb; ⟨ob, h1, h2⟩
  unfold getItem
  try with_reducible refine wpAny_holding ?_
  first | refine wpAny_bind (wpAny_pure ?_) | skip
  refine wpAny_bind (wpAny_sequenceKey gt.typeIs (by decide) ?_)
  refine wpAny_bind (wpAny_callSpecial?_slot (name := Str.ofString "__getitem__") gt.typeIs PyProof.Rows.slot_tuple_getitem
    (wpAny_call_entry PyProof.Rows.slot_tuple_getitem gt.typeIs entry_tuple_getitem ?_ (args_tuple_getitem _ _)))
  show wpAny _ _ (Builtin.Tuple.tupleItemsOf (.ref t) >>= _) _ _ s
  refine wpAny_bind (tupleItemsOf_ gt ?_)
  refine wpAny_bind (wpAny_typeOf tb ?_)
  rw [if_pos (by decide)]
  refine wpAny_bind (back_slice gb ?_)
  have no : ¬ (((zs.size : Int) - 1 == 0 && (-1 : Int) == 1 && zs.size == zs.size) = true) := by simp
  show wpAny _ _ (if ((zs.size : Int) - 1 == 0 && (-1 : Int) == 1 && zs.size == zs.size) = true then _ else _) _ _ s
  rw [if_neg no, back_items]
  first
    | exact wpAny_bind (m := Builtin.Tuple.tupleExact _) (wpAny_newObj_type (wpAny_pure ⟨_, rfl, wpAny_pure q⟩) fit)
    | exact wpAny_bind (m := Builtin.Tuple.tupleExact _) (wpAny_newObj_type (wpAny_bind (wpAny_pure (wpAny_pure ⟨_, rfl, wpAny_pure q⟩))) fit)
    | exact wpAny_bind (wpAny_bind (m := Builtin.Tuple.tupleExact _) (wpAny_newObj_type (wpAny_pure ⟨_, rfl, wpAny_pure q⟩) fit))
end
def tBack (K : PySem.W.Frag) (te : TE) : TE := fun σ H Q => te σ H fun x H1 => ∃ a xs, x = .ref a ∧ SqT K H1 a xs ∧ ∀ p, H1 p = none → Q (.ref p) (upd H1 p (.tup xs.reverse))
theorem pe_back {X : Cx} {e : Expr} {te : TE} {k : Nat} {p1 p2 p3 pos : Pos} (he : PE X e te) : PE X (.Subscript e (.Slice none none (some (.UnaryOp .USub (.Constant (.int 1) k p1) p2)) p3) pos) (tBack X.K te) := by
  refine ⟨fun pins s σ H Q I z => Subscript_ (thn (he.run pins s σ H _ I z) fun v s1 ⟨x, H1, J1, rx, y⟩ => ?_)⟩
  obtain ⟨a, xs, rfl, hx, y⟩ := y
  cases rx
  have step : PO X (some (.UnaryOp .USub (.Constant (.int 1) k p1) p2)) (tPart (tUn (rU fun i => .int (-i)) (tC (.int 1)))) := po_some (pe_un un_neg pe_int)
  refine wpAny_Slice (thn (po_none.run pins s1 σ H1 (fun o h => o = none ∧ h = H1) J1 ⟨rfl, rfl⟩) fun v1 s2 ⟨o1, H2, J2, g1, c1, e2⟩ => ?_)
  subst c1 e2
  refine thn (po_none.run pins s2 σ H2 (fun o h => o = none ∧ h = H2) J2 ⟨rfl, rfl⟩) fun v2 s3 ⟨o2, H3, J3, g2, c2, e3⟩ => ?_
  subst c2 e3
  refine thn (step.run pins s3 σ H3 (fun o h => o = some (-1) ∧ h = H3) J3 ⟨1, rfl, -1, rfl, rfl, rfl⟩) fun v3 s4 ⟨o3, H4, J4, g3, c3, e4⟩ => ?_
  subst c3 e4
  cases g1
  cases g2
  obtain ⟨tk, rfl⟩ : ∃ tk, v3 = .int (-1) tk := by
    cases g3
    exact ⟨_, rfl⟩
  have J5 : L2.Inv X pins σ H4 { s4 with heap := s4.heap.push { cls := .type "slice", data := .fields #[.none, .none, .int (-1) tk] } } := J4.kept (t' := s4.toks) fun b ob q => Heap.get?_push_of_some _ q
  obtain ⟨its, r, ht, hz⟩ := J5.tuple hx
  show wpAny (model X.prog X.w) X.A (subscriptTail e (.Slice none none (some (.UnaryOp .USub (.Constant (.int 1) k p1) p2)) p3) (.ref a) (.ref s4.heap.objs.size)) (EP X pins σ Q) X.xe _
  refine tail_any (ops := [.ref a, .ref s4.heap.objs.size]) ht.typeIs (PyProof.Rows.slot_tuple_getitem.lookup) ?_ (by with_unfolding_all rfl)
  refine back_item ht (Heap.IsSliceOf.new ..) (by rw [List.size_toArray, ← r.length]; exact hz) ?_
  refine ⟨.ref _, _, J5.laid (t' := s4.toks) (o := .tup xs.reverse) (fun b ob q => Heap.get?_push_of_some _ q) (Nat.le_refl _) ?_, rfl, y _ (J5.hok.fresh (Nat.le_refl _))⟩
  exact ⟨by rw [List.length_reverse]; exact hz, _, r.reverse, IsTup.new _ _⟩
section
variable {G : Wd} {n : Nat} {N : List Str} {sc : Scope} {W W0 : WX} {X : Cx} {a b c e tg elt iter : Expr} {es : List Expr} {pos p p1 p2 p3 : Pos} {f h k : Env → M Tv} {ft ht kt : Env → M Bool} {fs hs : Env → M (List Tv)}
  {ν μ ν' μ' ν1 μ1 ν0 μ0 : List Addr} {H H' H1 H0 : Hp} {S S' S0 : Sto}
theorem s_revT {kk : Nat} (g : Gd G n N sc W X) (ha : PE X a (tE G W f)) :
    PE X (.Subscript a (.Slice none none (some (.UnaryOp .USub (.Constant (.int 1) kk p1) p2)) p3) pos) (tE G W fun env => bnd (f env) fun x => match x with
      | .tup ts => ret (.tup ts.reverse)
      | _ => bad) := by
  refine PE.imp (pe_back ha) fun σ H Q z => z.one fun S ν μ v H' t s d y => ?_
  cases t with
  | tup ts =>
    simp only [Dn] at d
    obtain ⟨q, vs, rfl, fz, d⟩ := d
    refine ⟨q, vs, rfl, by rw [g.iw.K]; exact fz.sq, fun l hl => ?_⟩
    obtain ⟨n1, n2, n3⟩ := new_none s (.refl) hl
    exact y (.ref l) _ _ _ (.new1 s hl) (Dn.tup (s.fresh hl) upd_same (Dns.kp (.new1 hl) (List.prefix_refl _) _ _ d.reverse))
  | _ => exact y.elim
/-! ### list(range(n)) -/
theorem rg_dn {G : Wd} {ν μ : List Addr} {H : Hp} : ∀ (m : Nat) (j : Int), Dns G ν μ H (rngT j m) ((List.range m).map fun i => V.int (j + (i : Nat)))
  | 0, j => by simp only [rngT, List.range_zero, List.map_nil, Dns]
  | m + 1, j => by
    rw [List.range_succ_eq_map, List.map_cons, List.map_map]
    simp only [rngT, Dns]
    refine ⟨_, _, rfl, ?_, ?_⟩
    · rw [show j + ((0 : Nat) : Int) = j by omega]; exact dn_int
    · have z := rg_dn (G := G) (ν := ν) (μ := μ) (H := H) m (j + 1)
      have e : ((List.range m).map fun i => V.int (j + 1 + (i : Nat))) = (List.range m).map ((fun i => V.int (j + ((i : Nat) : Int))) ∘ Nat.succ) := by
        refine List.map_congr_left fun i _ => ?_
        show V.int _ = V.int _
        congr 1
        simp only [Nat.succ_eq_add_one]
        omega
      rw [← e]
      exact z
theorem s_rngL (g : Gd G n N sc W X) (hg : Gl X "list") (hm : G.mg "list" = none) (hg2 : Gl X "range") (hm2 : G.mg "range" = none) (ns : notStar a = true) (ha : PE X a (tE G W f)) :
    PE X (.Call (.Name "list" p) [.Call (.Name "range" p1) [a] [] p2] [] pos) (tL G W fun env => bnd (f env) fun x => match x with
      | .int i => if -1000000 < i ∧ i < 1000000 then ret (rngT 0 i.toNat) else bad
      | _ => bad) := by
  refine PE.imp (pe_listRg g.calm hg (by rw [g.iw.mg]; exact hm) (prg_1 hg2 (by rw [g.iw.mg]; exact hm2) ha (star_cons ns []))) fun σ H Q ⟨env, S, ν, μ, r, z⟩ => ?_
  refine ⟨env, S, ν, μ, r, ?_⟩
  simp only [bnd] at z
  cases e : f env S with
  | ok t S1 =>
    rw [e] at z
    intro v H1 ν1 μ1 a1 d
    simp only [Rs.bnd] at z
    cases t with
    | int i =>
      simp only [Dn] at d
      simp only at z
      split at z
      case isFalse => exact z.elim
      rename_i hb
      refine ⟨i, d, ⟨by omega, by omega, by omega, by omega, by omega⟩, fun q hq => ?_⟩
      obtain ⟨n1, n2, n3⟩ := new_none a1.st a1.kp hq
      have a2 := Af.place0 (vs := rgV 0 i) a1.st hq
      refine z (.ref q) _ _ _ (a1.trans a2) ⟨q, _, rfl, List.mem_cons_self, fun m => n1 (a1.st.sub q m), n2, n3, upd_same, ?_⟩
      unfold rgV
      rw [show (i - 0).toNat = i.toNat by omega]
      exact rg_dn _ _
    | _ => exact z.elim
  | ex c fs S1 => rw [e] at z; exact z
  | bad => rw [e] at z; exact z
theorem s_catL (g : Gd G n N sc W X) (ha : PE X a (tE G W f)) (hb : PE X b (tE G W h)) :
    PE X (.BinOp a .Add b pos) (tL G W fun env => bnd (f env) fun x => bnd (h env) fun y S => opt (catLV S x y) S) := by
  refine PE.imp (pe_op op_cat ha hb) fun σ H Q ⟨env, S, ν, μ, r, z⟩ => ?_
  refine ⟨env, S, ν, μ, r, ?_⟩
  simp only [bnd] at z
  cases e1 : f env S with
  | bad => rw [e1] at z; exact z.elim
  | ex c fs S1 => rw [e1] at z; exact z
  | ok t S1 =>
    rw [e1] at z
    intro v H1 ν1 μ1 a1 d1
    simp only [Rs.bnd, bnd] at z
    refine ⟨env, S1, ν1, μ1, r.af a1, ?_⟩
    cases e2 : h env S1 with
    | bad => rw [e2] at z; exact z.elim
    | ex c fs S2 => rw [e2] at z; exact fun cls d H2 ν2 μ2 b x => z cls d H2 ν2 μ2 (a1.trans b) x
    | ok u S2 =>
      rw [e2] at z
      intro w H2 ν2 μ2 a2 d2
      simp only [Rs.bnd, bnd] at z
      cases e3 : catLV S2 t u with
      | none => rw [e3] at z; exact z.elim
      | some ts =>
        rw [e3] at z
        unfold catLV at e3
        cases ea : lstOf S2 t with
        | none => rw [ea] at e3; cases e3
        | some xs =>
          cases eb : lstOf S2 u with
          | none => rw [ea, eb] at e3; cases e3
          | some ys =>
            rw [ea, eb] at e3
            simp only at e3
            split at e3
            case isFalse => cases e3
            rename_i hl
            have e3 := Option.some.inj e3
            subst e3
            obtain ⟨p, vs, rfl, f1, k1⟩ := lst_of a2.st (d1.af a2) ea
            obtain ⟨q, ws, rfl, f2, k2⟩ := lst_of a2.st d2 eb
            refine ⟨p, q, vs, ws, rfl, rfl, f1, f2, by rw [← k1.length, ← k2.length]; exact lim_le hl, fun l hl => ?_⟩
            have ab := a1.trans a2
            obtain ⟨n1, n2, n3⟩ := new_none ab.st ab.kp hl
            have a4 := Af.place0 (vs := vs ++ ws) ab.st hl
            exact z (.ref l) _ _ _ (ab.trans a4) ⟨l, _, rfl, List.mem_cons_self, fun m => n1 (ab.st.sub l m), n2, n3, upd_same, Dns.af a4 (k1.append k2)⟩
end
end Mp
namespace Mp
open PySem L2 PySem.Spec PyProof.Rows
section
variable {G : Wd} {n : Nat} {N : List Str} {sc : Scope} {W W0 : WX} {X : Cx} {a b c e tg elt iter tg1 iter1 : Expr} {es : List Expr} {pos p p1 p2 p3 : Pos} {f h k : Env → M Tv} {ft ht kt : Env → M Bool} {fs hs : Env → M (List Tv)}
  {ν μ ν' μ' ν1 μ1 ν0 μ0 : List Addr} {H H' H1 H0 : Hp} {S S' S0 S1 : Sto}
/-! ### two generators -/
theorem Fin.calmB {α β γ δ ε : Type} {νb μb : List Addr} {Hb : Hp} {Wc W0 : Value → Option Addr → Hp → Prop} {D : List Addr → List Addr → Hp → α → β → Prop} {D' : List Addr → List Addr → Hp → γ → δ → Prop} {m : M α} {k : α → M ε} {kk : ε → M γ} {Q : δ → Hp → Prop}
    (z : Fin G Wc D' νb μb Hb ((calmM (Mp.bnd m k) S).bnd kk) Q) : Fin G W0 D ν μ H (m S) fun v H1 => ∃ t S1 ν1 μ1, Af G ν μ H ν1 μ1 S1 H1 ∧ D ν1 μ1 H1 t v ∧ Fin G Wc D' νb μb Hb ((calmM (k t) S1).bnd kk) Q := by
  unfold calmM Mp.bnd at z
  cases e : m S with
  | ok t S1 =>
    rw [e] at z
    exact fun v H1 ν1 μ1 a d => ⟨t, S1, ν1, μ1, a, d, z⟩
  | ex c fs S1 => rw [e] at z; exact z.elim
  | bad => rw [e] at z; exact z.elim
theorem Fin.uncalm {α β : Type} {Wc : Value → Option Addr → Hp → Prop} {D : List Addr → List Addr → Hp → α → β → Prop} {m : M α} {Q : β → Hp → Prop} (z : Fin G Wc D ν μ H (calmM m S) Q) : Fin G Wc D ν μ H (m S) Q := by
  unfold calmM at z
  cases e : m S with
  | ok t S1 => rw [e] at z; exact z
  | ex c fs S1 => rw [e] at z; exact z.elim
  | bad => rw [e] at z; exact z.elim
theorem Fin.calmC {α β γ δ ε : Type} {νb μb : List Addr} {Hb : Hp} {Wc W0 : Value → Option Addr → Hp → Prop} {D : List Addr → List Addr → Hp → α → β → Prop} {D' : List Addr → List Addr → Hp → γ → δ → Prop} {m : M α} {k : α → M ε} {kk : ε → M γ} {Q : δ → Hp → Prop}
    (z : Fin G Wc D' νb μb Hb ((calmM (Mp.bnd (calmM m) k) S).bnd kk) Q) : Fin G W0 D ν μ H (m S) fun v H1 => ∃ t S1 ν1 μ1, Af G ν μ H ν1 μ1 S1 H1 ∧ D ν1 μ1 H1 t v ∧ Fin G Wc D' νb μb Hb ((calmM (k t) S1).bnd kk) Q := Fin.uncalm (Fin.calmB z)
theorem calm_map {α β γ : Type} {m : M α} {g : α → β} {kk : β → M γ} : (calmM (bnd m fun y => ret (g y)) S).bnd kk = (calmM m S).bnd fun y => kk (g y) := by
  unfold calmM bnd
  cases m S <;> rfl
theorem calm_cons {w : List (Nat × List Tv)} {tg : Tg} {env : Env} {c : Env → M Bool} {elt : Env → M Tv} {t : Tv} {r : List Tv} : calmM (compL w tg env c elt (t :: r)) S = if stays w S then (match setTg tg t env with
    | none => .bad
    | some e => calmM (bnd (calmM (c e)) fun k => if k then bnd (calmM (elt e)) fun y => bnd (compL w tg env c elt r) fun ys => ret (y :: ys) else compL w tg env c elt r) S) else .bad := by
  by_cases h : stays w S = true
  · cases e : setTg tg t env with
    | none => simp only [calmM, compL, h, e, if_true]
    | some e' => simp only [calmM, compL, h, e, if_true]
  · simp only [calmM, compL, h]
    rfl
theorem calm_nil {w : List (Nat × List Tv)} {tg : Tg} {env : Env} {c : Env → M Bool} {elt : Env → M Tv} : calmM (compL w tg env c elt []) S = if stays w S then .ok [] S else .bad := by
  by_cases h : stays w S = true
  · simp only [calmM, compL, h, if_true]
  · simp only [calmM, compL, h]
    rfl
theorem EnR.al {S' : Sto} {env : Env} {σ : L2.St} (a : Al G ν μ H ν' μ' S' H') (r : EnR G ν μ H env σ) : EnR G ν' μ' H' env σ :=
  ⟨r.len, fun i t e => let ⟨v, h1, h2⟩ := r.at' i t e; ⟨v, h1, h2.al a⟩⟩
theorem Al.side {q : Addr} {o : HO} (a : Al G ν μ H ν1 μ1 S1 H1) (hq : q ∈ ν1) (hm : q ∉ μ1) : Al G ν μ H ν1 μ1 S1 (upd H1 q o) := ⟨a.kp.trans (.write hq), a.pre, a.st.side hq hm⟩
abbrev ItD (G : Wd) : List Addr → List Addr → Hp → (List Tv × List (Nat × List Tv)) → It → Prop := fun ν μ H q J => ItR G ν μ H q.1 q.2 J
abbrev LsD (G : Wd) (νa : List Addr) (Ha : Hp) : List Addr → List Addr → Hp → List Tv → V → Prop := fun ν' μ' H' ts v => ∃ p vs, v = .ref p ∧ p ∈ ν' ∧ p ∉ μ' ∧ p ∉ νa ∧ Ha p = none ∧ H' p = some (.lst vs) ∧ Dns G ν' μ' H' ts vs
theorem comp2_imp {own own1 : List Nat} {tg tg1 : Tg} {fi fi1 : Env → M (List Tv × List (Nat × List Tv))} {fc fc1 : Env → M Bool} {fe : Env → M Tv} {σ : L2.St} {Q : VK} (ho : ∀ i ∈ tg.slots, i ∈ own) (ho1 : ∀ i ∈ tg1.slots, i ∈ own1)
    (z : tL G W (fun env => bnd (fi env) fun q => if q.1.length ≤ 1000 then comp2L q.2 tg (wipeE env own) fc (fun e => bnd (fi1 e) fun q2 => if q2.1.length ≤ 1000 then compL q2.2 tg1 (wipeE e own1) fc1 fe q2.1 else bad) q.1 else bad) σ H Q) :
    tLc2 (tI G W fi) (gT G tg) (tT G W0 fc) (tI G W0 fi1) (gT G tg1) (tT G W0 fc1) (tE G W0 fe) own own1 σ H Q := by
  obtain ⟨env, S, ν, μ, r, z⟩ := z
  refine ⟨env, S, ν, μ, r, (Fin.bnd (D := ItD G) z).mono fun J H1 ⟨q, S1, ν1, μ1, a1, it, z1⟩ D hD => ?_⟩
  obtain ⟨ts, w⟩ := q
  simp only at it z1
  split at z1
  case isFalse => exact z1.elim
  rename_i big
  obtain ⟨n1, n2, n3⟩ := new_none a1.st a1.kp hD
  have a2 := Af.place0 (vs := []) a1.st hD
  have nD : D ∉ μ1 := fun m => n1 (a1.st.sub D m)
  generalize hin : (fun e => bnd (fi1 e) fun q2 => if q2.1.length ≤ 1000 then compL q2.2 tg1 (wipeE e own1) fc1 fe q2.1 else bad) = inner at z1
  refine ⟨fun i m H4 => m = ts.length - i ∧ i ≤ ts.length ∧ ∃ S4 ν4 μ4 acc av, Af G ν1 μ1 H1 ν4 μ4 S4 H4 ∧ D ∈ ν4 ∧ D ∉ μ4 ∧ H4 D = some (.lst av) ∧ Dns G ν4 μ4 H4 acc av ∧ acc.length ≤ i * 1000 ∧
      Fin G (Wk W σ) (LsD G ν H) ν1 μ1 H1 ((comp2L w tg (wipeE env own) fc inner (ts.drop i) S4).bnd fun ys => ret (acc ++ ys)) Q, ?_, ?_⟩
  · refine ⟨ts.length, by simp, Nat.zero_le _, S1, _, _, [], [], a2, List.mem_cons_self, nD, upd_same, by simp only [Dns], Nat.zero_le _, ?_⟩
    have e : (fun ys : List Tv => ret (([] : List Tv) ++ ys)) = fun ys => ret ys := rfl
    rw [e, rs_ret]
    exact z1
  rintro i m H4 ⟨rfl, hi, S4, ν4, μ4, acc, av, a4, m4, m4', hD4, d4, hl4, z4⟩
  by_cases hlt : i < ts.length
  · have e1 : ts.drop i = ts[i] :: ts.drop (i + 1) := List.drop_eq_getElem_cons hlt
    rw [e1] at z4
    simp only [comp2L] at z4
    split at z4
    case isFalse => exact z4.elim
    rename_i hst
    obtain ⟨hgo, hy⟩ := it.go i ν4 μ4 S4 H4 a4.al hst hlt
    refine .inr ⟨hgo, fun H' => ∃ m', m' < ts.length - i ∧ (m' = ts.length - (i + 1) ∧ i + 1 ≤ ts.length ∧ ∃ S4 ν4 μ4 acc av, Af G ν1 μ1 H1 ν4 μ4 S4 H' ∧ D ∈ ν4 ∧ D ∉ μ4 ∧ H' D = some (.lst av) ∧ Dns G ν4 μ4 H' acc av ∧ acc.length ≤ (i + 1) * 1000 ∧
      Fin G (Wk W σ) (LsD G ν H) ν1 μ1 H1 ((comp2L w tg (wipeE env own) fc inner (ts.drop (i + 1)) S4).bnd fun ys => ret (acc ++ ys)) Q), fun H' h => h, fun x H5 y => ?_⟩
    obtain ⟨t, et, a5, d5, keep⟩ := hy x H5 y
    rw [List.getElem?_eq_getElem hlt] at et
    cases et
    cases es : setTg tg ts[i] (wipeE env own) with
    | none => rw [es] at z4; exact z4.elim
    | some e =>
      rw [es] at z4
      simp only [bnd, bnd_bnd] at z4
      refine ⟨ts[i], wipeE env own, ν4, μ4, e, ((((r.en.af a1).af a4).af a5).wipe own), d5, es, fun σ2 r2 o2 => ⟨(o2 own ho).trans (wipe_wipe fun _ h => h), ?_⟩⟩
      refine ⟨e, S4, ν4, μ4, ⟨a5.st, r2⟩, (Fin.calm (D := DB) z4).mono fun b H6 ⟨b', S6, ν6, μ6, a6, eb, z6⟩ => ?_⟩
      have eb' : b' = b := eb
      subst eb'
      obtain ⟨k6, h6⟩ := a6.still m4' (keep D _ hD4)
      cases b' with
      | false =>
        refine iteF ⟨_, by omega, rfl, hlt, S6, ν6, μ6, acc, av, (a4.trans a5).trans a6, a6.kp.sub D m4, k6, h6, (d4.af a5).af a6, by omega, ?_⟩
        exact z6
      | true =>
        simp only [if_true, bnd, bnd_bnd] at z6
        rw [← hin] at z6
        refine iteT ⟨e, S6, ν6, μ6, ⟨a6.st, r2.af a6⟩, (Fin.calmB (D := ItD G) z6).mono fun J1 H7 ⟨q2, S7, ν7, μ7, a7, it1, z7⟩ => ?_⟩
        obtain ⟨us, w2⟩ := q2
        simp only at it1 z7
        by_cases hl2 : us.length ≤ 1000
        case neg => rw [if_neg hl2] at z7; exact z7.elim
        rw [if_pos hl2] at z7
        obtain ⟨k7, h7⟩ := a7.still k6 h6
        have m7 := a7.kp.sub D (a6.kp.sub D m4)
        have d7 : Dns G ν7 μ7 H7 acc av := ((d4.af a5).af a6).af a7
        have A7 := ((a4.trans a5).trans a6).trans a7
        have r7 := (r2.af a6).af a7
        rw [hin] at z7
        refine ⟨fun j m H8 => m = us.length - j ∧ j ≤ us.length ∧ ∃ S8 ν8 μ8 ac av, Af G ν1 μ1 H1 ν8 μ8 S8 H8 ∧ Al G ν7 μ7 H7 ν8 μ8 S8 H8 ∧ D ∈ ν8 ∧ D ∉ μ8 ∧ H8 D = some (.lst av) ∧ Dns G ν8 μ8 H8 ac av ∧ ac.length ≤ i * 1000 + j ∧
          Fin G (Wk W σ) (LsD G ν H) ν1 μ1 H1 ((calmM (compL w2 tg1 (wipeE e own1) fc1 fe (us.drop j)) S8).bnd fun ys S => (comp2L w tg (wipeE env own) fc inner (ts.drop (i + 1)) S).bnd fun zs => ret (ac ++ (ys ++ zs))) Q, ?_, ?_⟩
        · exact ⟨us.length, by simp, Nat.zero_le _, S7, ν7, μ7, acc, av, A7, .refl a7.st, m7, k7, h7, d7, by omega, z7⟩
        rintro j m H8 ⟨rfl, hj, S8, ν8, μ8, ac, av8, a8, l8, m8, k8, h8, d8, hl8, z8⟩
        by_cases hjt : j < us.length
        · have e2 : us.drop j = us[j] :: us.drop (j + 1) := List.drop_eq_getElem_cons hjt
          rw [e2, calm_cons] at z8
          split at z8
          case isFalse => exact z8.elim
          rename_i hst2
          obtain ⟨hgo2, hy2⟩ := it1.go j ν8 μ8 S8 H8 l8 hst2 hjt
          refine .inr ⟨hgo2, fun H' => ∃ m', m' < us.length - j ∧ (m' = us.length - (j + 1) ∧ j + 1 ≤ us.length ∧ ∃ S8 ν8 μ8 ac av, Af G ν1 μ1 H1 ν8 μ8 S8 H' ∧ Al G ν7 μ7 H7 ν8 μ8 S8 H' ∧ D ∈ ν8 ∧ D ∉ μ8 ∧ H' D = some (.lst av) ∧ Dns G ν8 μ8 H' ac av ∧ ac.length ≤ i * 1000 + (j + 1) ∧
            Fin G (Wk W σ) (LsD G ν H) ν1 μ1 H1 ((calmM (compL w2 tg1 (wipeE e own1) fc1 fe (us.drop (j + 1))) S8).bnd fun ys S => (comp2L w tg (wipeE env own) fc inner (ts.drop (i + 1)) S).bnd fun zs => ret (ac ++ (ys ++ zs))) Q), fun H' h => h, fun x H9 y => ?_⟩
          obtain ⟨t, et, a9, d9, keep9⟩ := hy2 x H9 y
          rw [List.getElem?_eq_getElem hjt] at et
          cases et
          cases es2 : setTg tg1 us[j] (wipeE e own1) with
          | none => rw [es2] at z8; exact z8.elim
          | some e3 =>
            rw [es2] at z8
            simp only at z8
            refine ⟨us[j], wipeE e own1, ν8, μ8, e3, (((r7.al l8).af a9).wipe own1), d9, es2, fun σ3 r3 o3 => ⟨(o3 own1 ho1).trans (wipe_wipe fun _ h => h), ?_⟩⟩
            refine ⟨e3, S8, ν8, μ8, ⟨a9.st, r3⟩, (Fin.calmC (D := DB) z8).mono fun b H10 ⟨b', S10, ν10, μ10, a10, eb, z10⟩ => ?_⟩
            have eb' : b' = b := eb
            subst eb'
            obtain ⟨k10, h10⟩ := a10.still k8 (keep9 D _ h8)
            cases b' with
            | false =>
              simp only [Bool.false_eq_true, if_false] at z10
              refine iteF ⟨_, by omega, rfl, hjt, S10, ν10, μ10, ac, av8, (a8.trans a9).trans a10, (l8.more a9).more a10, a10.kp.sub D m8, k10, h10, (d8.af a9).af a10, by omega, ?_⟩
              exact z10
            | true =>
              simp only [if_true] at z10
              refine iteT ⟨e3, S10, ν10, μ10, ⟨a10.st, r3.af a10⟩, (Fin.calmC (D := DV G) z10).mono fun y H11 ⟨ty, S11, ν11, μ11, a11, dy, z11⟩ => ?_⟩
              obtain ⟨k11, h11⟩ := a11.still k10 h10
              have m11 := a11.kp.sub D (a10.kp.sub D m8)
              have d11 : Dns G ν11 μ11 H11 ac av8 := ((d8.af a9).af a10).af a11
              have al : av8.length ≤ i * 1000 + j := by rw [← d8.length]; exact hl8
              rw [calm_map] at z11
              refine ⟨av8, h11, ?_, _, by omega, rfl, hjt, S11, ν11, μ11, ac ++ [ty], av8 ++ [y], Af.side (((a8.trans a9).trans a10).trans a11) m11 k11 hD, Al.side (((l8.more a9).more a10).more a11) m11 k11, m11, k11, upd_same, (d11.append (Dns.one dy)).write m11, by rw [List.length_append, List.length_singleton]; omega, ?_⟩
              · rw [sizeLine_eq]; omega
              · have ef : (fun (ys : List Tv) S => (comp2L w tg (wipeE env own) fc inner (ts.drop (i + 1)) S).bnd fun zs => ret ((ac ++ [ty]) ++ (ys ++ zs))) = fun ys S => (comp2L w tg (wipeE env own) fc inner (ts.drop (i + 1)) S).bnd fun zs => ret (ac ++ (ty :: ys ++ zs)) := by
                  funext ys S
                  congr 1
                  funext zs
                  simp
                rw [ef]
                exact z11
        · have e : j = us.length := by omega
          subst e
          rw [List.drop_length, calm_nil] at z8
          split at z8
          case isFalse => exact z8.elim
          rename_i hst2
          refine .inl ⟨it1.stop _ _ _ _ _ l8 hst2 rfl, _, by omega, rfl, hlt, S8, ν8, μ8, ac, av8, a8, m8, k8, h8, d8, by omega, ?_⟩
          simp only [Rs.bnd, List.nil_append] at z8
          exact z8
  · have e : i = ts.length := by omega
    subst e
    rw [List.drop_length] at z4
    simp only [comp2L] at z4
    split at z4
    case isFalse => exact z4.elim
    rename_i hst
    refine .inl ⟨it.stop _ _ _ _ _ a4.al hst rfl, ?_⟩
    simp only [Rs.bnd] at z4
    rw [List.append_nil] at z4
    exact z4 (.ref D) H4 ν4 μ4 a4 ⟨D, av, rfl, m4, m4', n2, n3, hD4, d4⟩
/-- what the parts are -/
structure LcR2 (G : Wd) (n : Nat) (N : List Str) (sc : Scope) (X : Cx) (elt tg iter tg1 iter1 : Expr) (ifs ifs1 : List Expr) (scope : Scope) (own : List (Str × Nat)) (own1 : List Nat) (W : WX) (tgt tgt1 : Tg) (fi fi1 : Env → M (List Tv × List (Nat × List Tv))) (fc fc1 : Env → M Bool) (fe : Env → M Tv) : Prop where
  hi : PI X tg iter (tI G W fi)
  ok : blkC N sc scope own = true
  hg : ∀ Y, Gd G n N (relS scope sc) WN Y → (∀ x, (scope.names.lookup x == some .cell) = true → Y.fn x = true) → PG Y tg (gT G tgt)
  ht : ∀ Y, Gd G n N (relS scope sc) WN Y → PTs Y ifs (tT G WN fc)
  hi1 : ∀ Y, Gd G n N (relS scope sc) WN Y → PI Y tg1 iter1 (tI G WN fi1)
  hg1 : ∀ Y, Gd G n N (relS scope sc) WN Y → (∀ x, (scope.names.lookup x == some .cell) = true → Y.fn x = true) → PG Y tg1 (gT G tgt1)
  ht1 : ∀ Y, Gd G n N (relS scope sc) WN Y → PTs Y ifs1 (tT G WN fc1)
  he : ∀ Y, Gd G n N (relS scope sc) WN Y → PE Y elt (tE G WN fe)
  ho : ∀ i ∈ tgt.slots, i ∈ own.map (·.2)
  ho1 : ∀ i ∈ tgt1.slots, i ∈ own1
  hv : ∀ i ∈ own1, i ∈ own.map (·.2)
  ns : notSet iter = true
  ns1 : notSet iter1 = true
abbrev lc2M (own own1 : List Nat) (tg tg1 : Tg) (fi fi1 : Env → M (List Tv × List (Nat × List Tv))) (fc fc1 : Env → M Bool) (fe : Env → M Tv) : Env → M (List Tv) :=
  fun env => bnd (fi env) fun q => if q.1.length ≤ 1000 then comp2L q.2 tg (wipeE env own) fc (fun e => bnd (fi1 e) fun q2 => if q2.1.length ≤ 1000 then compL q2.2 tg1 (wipeE e own1) fc1 fe q2.1 else bad) q.1 else bad
variable {ifs ifs1 : List Expr} {scope : Scope} {own : List (Str × Nat)} {own1 : List Nat} {tgt tgt1 : Tg} {fi fi1 : Env → M (List Tv × List (Nat × List Tv))} {fc fc1 : Env → M Bool} {fe : Env → M Tv}
theorem s_lc2 (g : Gd G n N sc W X) (l : LcR2 G n N sc X elt tg iter tg1 iter1 ifs ifs1 scope own own1 W tgt tgt1 fi fi1 fc fc1 fe) :
    PE X (.ListComp elt [⟨tg, iter, ifs, 0⟩, ⟨tg1, iter1, ifs1, 0⟩] scope pos) (tL G W (lc2M (own.map (·.2)) own1 tgt tgt1 fi fi1 fc fc1 fe)) := by
  refine PE.imp (pe_lc2 (own := own) (vs1 := own1) g.calm (by rw [g.nms]; exact g.nd) l.hi (by rw [g.nms, g.sc]; exact blkOk_by l.ok) l.hv (fun s H C cl fp => l.hg _ (g.blk scope s H C cl fp) fun x hx => hx)
    (fun s H C cl fp => l.ht _ (g.blk scope s H C cl fp)) (fun s H C cl fp => l.hi1 _ (g.blk scope s H C cl fp)) (fun s H C cl fp => l.hg1 _ (g.blk scope s H C cl fp) fun x hx => hx)
    (fun s H C cl fp => l.ht1 _ (g.blk scope s H C cl fp)) (fun s H C cl fp => l.he _ (g.blk scope s H C cl fp)) (fold_no l.ns) fun env => fold_no l.ns1) fun σ H Q z => comp2_imp l.ho l.ho1 z
theorem s_asgLc2 {i : Nat} {y : Str} {py spos : Pos} (g : Gd G n N sc W X) (l : LcR2 G n N sc X elt tg iter tg1 iter1 ifs ifs1 scope own own1 W tgt tgt1 fi fi1 fc fc1 fe) (hy : N[i]? = some y) (hyl : sc.names.lookup y = some .local)
    (hsw : swapsWith (.ListComp elt [⟨tg, iter, ifs, 0⟩, ⟨tg1, iter1, ifs1, 0⟩] scope pos) (some (.Name y py)) spos.line X.env = pure true)
    (hf : ∀ σ H Q, tE G W f σ H Q → tL G W (lc2M (own.map (·.2)) own1 tgt tgt1 fi fi1 fc fc1 fe) σ H Q) :
    PS X (.Assign [.Name y py] (.ListComp elt [⟨tg, iter, ifs, 0⟩, ⟨tg1, iter1, ifs1, 0⟩] scope pos) spos) (tS G W (asgM (.v i) f)) := by
  refine PS.imp (ps_setLc2 (i := i) (own := own) (vs1 := own1) g.calm (by rw [g.nms]; exact g.nd) (by rw [g.nms]; exact hy) (by rw [g.sc]; exact hyl) hsw l.hi (by rw [g.nms, g.sc]; exact blkOk_by l.ok) l.hv (fun s H C cl fp => l.hg _ (g.blk scope s H C cl fp) fun x hx => hx)
    (fun s H C cl fp => l.ht _ (g.blk scope s H C cl fp)) (fun s H C cl fp => l.hi1 _ (g.blk scope s H C cl fp)) (fun s H C cl fp => l.hg1 _ (g.blk scope s H C cl fp) fun x hx => hx)
    (fun s H C cl fp => l.ht1 _ (g.blk scope s H C cl fp)) (fun s H C cl fp => l.he _ (g.blk scope s H C cl fp)) (fold_no l.ns) fun env => fold_no l.ns1) fun D σ H z => ?_
  refine comp2_imp l.ho l.ho1 (hf σ H _ ?_)
  obtain ⟨env, S, ν, μ, r, z⟩ := z
  refine ⟨env, S, ν, μ, r, (FinS.expr (.refl r.st) r.en z).mono fun v H1 ⟨t, S2, ν2, μ2, a, d, z⟩ => ?_⟩
  exact z _ H1 ν2 μ2 a ((r.en.af a).set d)
end
end Mp
namespace Mp
open PySem L2 PySem.Spec PyProof.Rows
/-! ### arguments, defaults -/
section
variable {G : Wd} {ν μ ν' μ' : List Addr} {H H' : Hp}
theorem Dns.opt {ts : List Tv} {vs : List V} (d : Dns G ν μ H ts vs) (i : Nat) : (ts[i]? = none ∧ vs[i]? = none) ∨ ∃ t v, ts[i]? = some t ∧ vs[i]? = some v ∧ Dn G ν μ H t v := by
  cases e : ts[i]? with
  | none =>
    refine .inl ⟨rfl, ?_⟩
    rw [List.getElem?_eq_none_iff] at e ⊢
    rw [← d.length]
    exact e
  | some t =>
    obtain ⟨v, e1, d1⟩ := d.get e
    exact .inr ⟨t, v, rfl, e1, d1⟩
def ocons {α : Type} : Option α → List α → List α
  | none, r => r
  | some t, r => t :: r
theorem pick_cons0 {α : Type} {i : Nat} {r : List (Nat × Nat)} {xs ds ys : List α} : pickL ((0, i) :: r) xs ds ys = ocons xs[i]? (pickL r xs ds ys) := by
  unfold pickL
  rw [List.filterMap_cons]
  show (match xs[i]? with | none => _ | some b => _) = _
  cases xs[i]? <;> rfl
theorem pick_cons1 {α : Type} {i : Nat} {r : List (Nat × Nat)} {xs ds ys : List α} : pickL ((1, i) :: r) xs ds ys = ocons ds[i]? (pickL r xs ds ys) := by
  unfold pickL
  rw [List.filterMap_cons]
  show (match ds[i]? with | none => _ | some b => _) = _
  cases ds[i]? <;> rfl
theorem pick_cons2 {α : Type} {k i : Nat} {r : List (Nat × Nat)} {xs ds ys : List α} : pickL ((k + 2, i) :: r) xs ds ys = ocons ys[i]? (pickL r xs ds ys) := by
  unfold pickL
  rw [List.filterMap_cons]
  show (match ys[i]? with | none => _ | some b => _) = _
  cases ys[i]? <;> rfl
theorem Dns.pick {xs ds ys : List Tv} {vs dv zs : List V} (d1 : Dns G ν μ H xs vs) (d2 : Dns G ν μ H ds dv) (d3 : Dns G ν μ H ys zs) : ∀ pk : List (Nat × Nat), Dns G ν μ H (pickL pk xs ds ys) (pickL pk vs dv zs)
  | [] => by simp only [pickL, List.filterMap_nil, Dns]
  | (k, i) :: r => by
    have ih := Dns.pick d1 d2 d3 r
    have step : ∀ {us : List Tv} {ws : List V}, Dns G ν μ H us ws → Dns G ν μ H (ocons us[i]? (pickL r xs ds ys)) (ocons ws[i]? (pickL r vs dv zs)) := fun {us ws} d => by
      rcases d.opt i with ⟨e1, e2⟩ | ⟨t, v, e1, e2, d⟩
      · rw [e1, e2]; exact ih
      · rw [e1, e2]
        simp only [ocons, Dns]
        exact ⟨_, _, rfl, d, ih⟩
    match k with
    | 0 => rw [pick_cons0, pick_cons0]; exact step d1
    | 1 => rw [pick_cons1, pick_cons1]; exact step d2
    | k + 2 => rw [pick_cons2, pick_cons2]; exact step d3
end
theorem vals_at {vs : List V} {us : List Value} (h : Vals vs us) (i : Nat) : (vs[i]? = none ∧ us[i]? = none) ∨ ∃ v u, vs[i]? = some v ∧ us[i]? = some u ∧ RelV v u := by
  induction h generalizing i with
  | nil => exact .inl ⟨rfl, rfl⟩
  | cons r h ih =>
    cases i with
    | zero => exact .inr ⟨_, _, rfl, rfl, r⟩
    | succ i => simpa using ih i
theorem vals_pick {vs dv zs : List V} {us du ws : List Value} (h1 : Vals vs us) (h2 : Vals dv du) (h3 : Vals zs ws) : ∀ pk : List (Nat × Nat), Vals (pickL pk vs dv zs) (pickL pk us du ws)
  | [] => by simp only [pickL, List.filterMap_nil]; exact .nil
  | (k, i) :: r => by
    have ih := vals_pick h1 h2 h3 r
    have step : ∀ {ts : List V} {qs : List Value}, Vals ts qs → Vals (ocons ts[i]? (pickL r vs dv zs)) (ocons qs[i]? (pickL r us du ws)) := fun {ts qs} d => by
      rcases vals_at d i with ⟨e1, e2⟩ | ⟨t, v, e1, e2, d⟩
      · rw [e1, e2]; exact ih
      · rw [e1, e2]
        exact .cons d ih
    match k with
    | 0 => rw [pick_cons0, pick_cons0]; exact step h1
    | 1 => rw [pick_cons1, pick_cons1]; exact step h2
    | k + 2 => rw [pick_cons2, pick_cons2]; exact step h3
/-- self, then what is picked -/
def pickS {α : Type} (pk : List (Nat × Nat)) (us ds ws : List α) : List α := us.take 1 ++ pickL pk (us.drop 1) ds ws
section
variable {K : PySem.W.Frag} {x qual : Str} {params : Arguments} {body : List Stmt} {scope : Scope} {dvs : List V} {kws : List (Str × V)} {f : Addr} {fd : FuncData} {ps : List Str}
theorem kbindsM (F : FunD K x qual params body scope dvs kws f fd) (n : Nat) (ks : List Str) (ms : List (Str × V)) (pk : List (Nat × Nat)) (hd : dvs ≠ []) (hk : kws ≠ []) (hms : ∀ q ∈ ms, q ∈ kws)
    (h : ∀ (T D : Addr) (doc pm : Value) (an : Option Addr) (cdv ct : Value) (us its mv ws : List Value), us.length = n → its.length = dvs.length → mv.length = ms.length → ws.length = ks.length →
      ∃ k, bindArgs (PySem.W.fnOf x qual params body scope (.ref T) (.ref D) doc pm an cdv ct) ⟨us, ks.zip ws⟩ = seqItems? (.ref T) >>= k ∧ KwChain D ((ms.map (·.1)).zip mv) (k (some its.toArray)) (ps.zip (pickS pk us (its ++ mv) ws))) :
    ∃ gg, KBn K fd ps n ks gg (fun vs zs => pickS pk vs (dvs ++ ms.map (·.2)) zs) := by
  obtain ⟨oc, od, dV, kV, doc, pm, an, cdv, ct, osl, rfl, lk, hcd, hD, hK⟩ := F.ex
  rcases hD with ⟨e, _⟩ | ⟨_, T, o, its, m, rfl, lT, oT, rT⟩
  · exact absurd e hd
  rcases hK with e | ⟨D, rfl, hq⟩
  · exact absurd e hk
  obtain ⟨mv, hl, rk, hks⟩ := kwd_vals (ms := ms) fun q hm => hq q (hms q hm)
  refine ⟨fun us ws => pickS pk us (its ++ mv) ws, ⟨fun s us ws hK l1 l2 => ?_, fun {vs us zs ws} r1 r2 => ?_⟩⟩
  · obtain ⟨k, e1, e2⟩ := h T D doc pm an cdv ct us its mv ws l1 rT.length.symm hl l2
    refine BindsTo.of_looks fun M => ?_
    rw [e1]
    exact looks_items hK lT oT (KwChain.looks hK hks e2)
  · unfold pickS
    exact (r1.take 1).append (vals_pick (r1.drop 1) (rT.append rk) r2 pk)
end
section
variable {G : Wd} {ν μ ν' μ' : List Addr} {H H' : Hp}
/-- the defaults: tuples of whole numbers that the written part holds -/
def tupAt (K : PySem.W.Frag) (a : Addr) (ns : List Int) : Bool := match K.lookup a with
  | some ⟨.type c, _, .seq its _, _⟩ => decide (c = "tuple") && (decide (its.size ≤ sizeLine) && He.relAll (ns.map V.int) its.toList)
  | _ => false
theorem tupAt_ok {K : PySem.W.Frag} {a : Addr} {ns : List Int} (h : tupAt K a ns = true) : KT K a (ns.map V.int) := by
  unfold tupAt at h
  split at h
  · rename_i c od its n sl q
    simp only [Bool.and_eq_true, decide_eq_true_eq] at h
    exact ⟨_, its, n, q, congrArg Value.type h.1, rfl, h.2.1, He.relAll_ok h.2.2⟩
  · cases h
theorem tupAt_dn {a : Addr} {ns : List Int} (h : tupAt G.K a ns = true) : Dn G ν μ H (.tup (ns.map .int)) (.ref a) := by
  simp only [Dn]
  refine ⟨a, _, rfl, .inr (tupAt_ok h), ?_⟩
  induction ns with
  | nil => simp only [List.map_nil, Dns]
  | cons n r ih =>
    simp only [List.map_cons, Dns]
    exact ⟨_, _, rfl, by simp only [Dn], List.rec (by simp only [List.map_nil, Dns]) (fun m q ih => by
      simp only [List.map_cons, Dns]
      exact ⟨_, _, rfl, by simp only [Dn], ih⟩) r⟩
theorem dfT_dn {G : Wd} {ν μ : List Addr} {H : Hp} : ∀ {ads : List Addr} {ds : List (List Int)}, ads.length = ds.length → (∀ p ∈ ads.zip ds, tupAt G.K p.1 p.2 = true) → Dns G ν μ H (dfT ds) (ads.map V.ref)
  | [], [], _, _ => by simp only [dfT, List.map_nil, Dns]
  | [], _ :: _, h, _ => by simp at h
  | _ :: _, [], h, _ => by simp at h
  | a :: r, d :: s, h, z => by
    have ih := dfT_dn (G := G) (ν := ν) (μ := μ) (H := H) (ads := r) (ds := s) (by simpa using h) fun p hp => z p (List.mem_cons_of_mem _ hp)
    show Dns G ν μ H (.tup (d.map .int) :: dfT s) (V.ref a :: r.map V.ref)
    simp only [Dns]
    exact ⟨_, _, rfl, tupAt_dn (z (a, d) List.mem_cons_self), ih⟩
end
/-! ### errors without a word -/
abbrev vbm : List Value := [.type "ValueError", .type "Exception", .type "BaseException", .type "object"]
structure XcOk (K : PySem.W.Frag) (C : Addr) : Prop where
  ex : PySem.W.excIn K C vbm "ValueError.__new__" = true
  kp : PySem.W.keepIn K (.ref C) = true
  sub : PySem.W.subIn K (.ref C) (.type "BaseException") = some true
  ty : PySem.W.typeIn K (.ref C) = some (.type "type")
  xc : ExcC K C
section
variable {G : Wd} {n : Nat} {N : List Str} {sc : Scope} {W W0 : WX} {X : Cx} {p p2 pos : Pos}
theorem pmk_bare {x : Str} {C : Addr} (q : XcOk X.K C) (hm : X.mg x = some (.ref C)) (hg : Gl X x) (hd : (x == ("__debug__" : Str)) = false) : PMk X (.Call (.Name x p) [] [] pos) (fun _ H Q => Q (.ref C) none H) := by
  intro pins s σ H Q J z
  refine wpAny_Call_Name_kw (ld_glob J hg hm ?_ hd)
  refine PySem.W.callWith_K0 J.kIn q.kp ?_
  obtain ⟨bm, M, nm, qn, bs, hdct, sn, sub, ab, col, dd, k0, k1, k2, k3, k5, mN, hC, hN, hni, T⟩ := exc_obj J.kIn q.ex
  refine wpAny_call_exc_subT PySem.F.excBase_ValueError T hC hN hni (fun h' e me => ?_) (Nat.zero_le _)
  exact mk_of J me (raises_own q.sub q.ty) z (J.hok.gone me.new)
theorem s_raiseE {x : Str} {c : Nat} {C : Addr} (g : Gd G n N sc W X) (q : XcOk G.K C) (hx : (G.xcs c).1 = x) (hm : G.mg x = some (.ref C)) (hg : Gl X x) (hd : (x == ("__debug__" : Str)) = false) :
    PS X (.Raise (some (.Call (.Name x p) [] [] p2)) none pos) (tS G W fun env S => .ex c [] env S) := by
  refine PS.imp (ps_raise g.calm g.tk (pmk_bare (by rw [g.iw.K]; exact q) (by rw [g.iw.mg]; exact hm) hg hd)) fun D σ H ⟨env, S, ν, μ, r, z⟩ => ?_
  exact z (.ref C) none σ H ν μ (.refl r.st) r.en ⟨C, rfl, by rw [hx]; exact hm, rfl⟩
/-- v = 'a' if isinstance(e, y) else 'b', of the error in hand -/
theorem s_tell {a Cy : Addr} {oe : Obj} {cls : Value} {d : Option Addr} {pn : List (Addr × Obj)} {i v : Nat} {en vn y : Str} {s1 s2 : Str} {k1 k2 : Nat} {vp np ip ep yp q1 q2 ifp ap : Pos}
    (hz : Zc cls d oe) (hf : ∃ vs, oe.data = .fields vs) (hN : X.N.Nodup) (hi : X.N[i]? = some en) (hv : X.N[v]? = some vn) (le : X.env.scope.names.lookup en = some .local) (lv : X.env.scope.names.lookup vn = some .local)
    (de : (en == ("__debug__" : Str)) = false) (de2 : (en == ("__classdict__" : Str)) = false) (gi : Gl X "isinstance") (mi : X.mg "isinstance" = none) (gy : Gl X y) (my : X.mg y = some (.ref Cy)) (dy : (y == ("__debug__" : Str)) = false) :
    PSs (X.suite a ((a, oe) :: pn)) [.Assign [.Name vn vp] (.IfExp (.Call (.Name "isinstance" ip) [.Name en ep, .Name y yp] [] np) (.Constant (.str s1) k1 q1) (.Constant (.str s2) k2 q2) ifp) ap]
      (fun D σ H => ∃ C b, cls = .ref C ∧ d = none ∧ ExcC X.K C ∧ PySem.W.kitOne X.K (.ref C) (.ref Cy) = some b ∧ σ[i]? = some (some (.ref a)) ∧ D.nx (σ.set v (some (.str (if b then s1 else s2)))) H) := by
  refine ⟨fun pins s σ H D J ⟨C, b, e1, e2, xc, hk, hs, z⟩ => ?_⟩
  subst e1 e2
  have pn1 : PE (X.suite a ((a, oe) :: pn)) (.Name en ep) (tVar i) := pe_var hi (.inl le) de de2
  have py : PE (X.suite a ((a, oe) :: pn)) (.Name y yp) (tC (.ref Cy)) := pe_glob gy my rfl dy
  have pc : PE (X.suite a ((a, oe) :: pn)) (.Call (.Name "isinstance" ip) [.Name en ep, .Name y yp] [] np) (tCB (rIsE X.K C a) (tCons (tVar i) (tCons (tC (.ref Cy)) tNil))) :=
    pe_callB (call_isE xc hz hf) gi mi (by decide +kernel) (pa_cons pn1 (pa_cons py pa_nil))
  have ps1 : PE (X.suite a ((a, oe) :: pn)) (.Constant (.str s1) k1 q1) (tC (.str s1)) := pe_str
  have ps2 : PE (X.suite a ((a, oe) :: pn)) (.Constant (.str s2) k2 q2) (tC (.str s2)) := pe_str
  have st := pss_cons (ps_set (X := X.suite a ((a, oe) :: pn)) (pos := ap) (pos' := vp) hN hv (.inl lv) (pe_ifExp (pos := ifp) (pt_val pc) ps1 ps2) (by rfl) (.inr lv)) pss_nil
  refine st.run pins s σ H D J ?_
  refine ⟨.ref a, hs, .ref Cy, .ref Cy, b, rfl, fun u r => r, hk, b, rfl, ?_⟩
  cases b with
  | true => exact z
  | false => exact z
theorem lookup_mem {c : Nat} {b : Bool} : ∀ {l : List (Nat × Bool)}, l.lookup c = some b → (c, b) ∈ l
  | [], h => nomatch h
  | (t1, t2) :: l, h => by
    simp only [List.lookup_cons] at h
    split at h
    · rename_i e
      cases h
      rw [eq_of_beq e]
      exact List.mem_cons_self
    · exact List.mem_cons_of_mem _ (lookup_mem h)
theorem s_tryE {x y en vn : Str} {i v : Nat} {Cx' Cy : Addr} {sub : List (Nat × Bool)} {s1 s2 : Str} {k1 k2 : Nat} {xp hp' vp np ip ep yp q1 q2 ifp ap : Pos} {body : List Stmt} {q : Env → Sto → Sr}
    (g : Gd G n N sc W X) (hst : X.stack = X.env :: X.outer) (hfr : X.env.frame = some X.env.locals) (hi : N[i]? = some en) (hv : N[v]? = some vn) (le : sc.names.lookup en = some .local) (lv : sc.names.lookup vn = some .local)
    (de : (en == ("__debug__" : Str)) = false) (de2 : (en == ("__classdict__" : Str)) = false) (gi : Gl X "isinstance") (mi : G.mg "isinstance" = none) (gy : Gl X y) (my : G.mg y = some (.ref Cy)) (dy : (y == ("__debug__" : Str)) = false)
    (gx : Gl X x) (mx : G.mg x = some (.ref Cx')) (dx : (x == ("__debug__" : Str)) = false)
    (hsub : ∀ c b, (c, b) ∈ sub → ∃ C, G.mg (G.xcs c).1 = some (.ref C) ∧ XcOk G.K C ∧ PySem.W.exmOne G.K (.ref C) (.ref Cx') = some true ∧ PySem.W.kitOne G.K (.ref C) (.ref Cy) = some b)
    (hb : ∀ (W' : WX) (Y : Cx), Gd G n N sc W' Y → Y.fn = X.fn → Y.stack = Y.env :: Y.outer → Y.env.frame = some Y.env.locals → PassesOwn (model Y.prog Y.w) Y.A Y.env Y.xe → PSs Y body (tS G W' q)) :
    PS X (.Try body [.ExceptHandler (some (.Name x xp)) (some en) [.Assign [.Name vn vp] (.IfExp (.Call (.Name "isinstance" ip) [.Name en ep, .Name y yp] [] np) (.Constant (.str s1) k1 q1) (.Constant (.str s2) k2 q2) ifp) ap] hp'] [] [] pos)
      (tS G W fun env S => match q env S with
        | .ex c [] e S' => match sub.lookup c with
          | some b => if i < e.length then .nx ((e.set v (some (.str (if b then s1 else s2)))).set i none) S' else .bad
          | none => .bad
        | .ex _ _ _ _ => .bad
        | r => r) := by
  have kE : X.env.kindOf en = some .local := by
    show X.env.scope.names.lookup en = _
    rw [g.sc]; exact le
  have nx : Names X x (.ref Cx') := ⟨gx, dx, .inl (by rw [g.iw.mg]; exact mx)⟩
  refine PS.imp (ps_try_as (tb := fun W' => tS G W' q) (Wout := W) (ts := fun a cls d D σ H => ∃ C b, cls = .ref C ∧ d = none ∧ ExcC X.K C ∧ PySem.W.kitOne X.K (.ref C) (.ref Cy) = some b ∧ σ[i]? = some (some (.ref a)) ∧ D.nx (σ.set v (some (.str (if b then s1 else s2)))) H)
    hst hfr (by rw [g.nms]; exact g.nd) (by rw [g.nms]; exact hi) kE nx g.tk
    (fun W' pn xe tk po => hb W' (X.tr pn xe) ⟨⟨g.iw.P, g.iw.w, g.iw.K, g.iw.mg, g.iw.base, g.iw.gd⟩, g.nms, g.sc, g.nd, g.calm, g.room, tk, g.sys⟩ rfl hst hfr po)
    (fun a oe cls d pn hz hf => s_tell hz hf (by rw [g.nms]; exact g.nd) (by rw [g.nms]; exact hi) (by rw [g.nms]; exact hv) (by rw [g.sc]; exact le) (by rw [g.sc]; exact lv) de de2 gi (by rw [g.iw.mg]; exact mi) gy (by rw [g.iw.mg]; exact my) dy)) fun D σ H ⟨env, S, ν, μ, r, z⟩ => ?_
  refine ⟨env, S, ν, μ, r, ?_⟩
  dsimp only at z
  cases eq : q env S with
  | nx e S' => rw [eq] at z; exact z
  | bk e S' => rw [eq] at z; exact z
  | ct e S' => rw [eq] at z; exact z
  | rt t S' => rw [eq] at z; exact z
  | bad => rw [eq] at z; exact z.elim
  | ex c fs e S' =>
    rw [eq] at z
    cases fs with
    | cons _ _ => exact z.elim
    | nil =>
      simp only at z
      cases el : sub.lookup c with
      | none => rw [el] at z; exact z.elim
      | some b =>
        rw [el] at z
        simp only at z
        by_cases hlt : i < e.length
        case neg => rw [if_neg hlt] at z; exact z.elim
        rw [if_pos hlt] at z
        intro cls d σ' H' ν' μ' af en' xc
        obtain ⟨C, rfl, hm, hd⟩ := xc
        have mem : (c, b) ∈ sub := lookup_mem el
        obtain ⟨C', hm', xo, h1, h2⟩ := hsub c b mem
        rw [hm] at hm'
        cases hm'
        have dn : d = none := by
          cases d with
          | none => rfl
          | some _ => exact absurd rfl hd.1
        refine ⟨true, by rw [g.iw.K]; exact h1, fun _ a na => ⟨C, b, rfl, dn, by rw [g.iw.K]; exact xo.xc, by rw [g.iw.K]; exact h2, ?_, ?_⟩, fun z => nomatch z⟩
        · rw [List.getElem?_set_self (by rw [← en'.len]; exact hlt)]
        · have e1 : EnR G ν' μ' H' ((e.set v (some (.str (if b then s1 else s2)))).set i none) ((σ'.set i (some (.ref a))).set v (some (.str (if b then s1 else s2))) |>.set i none) := by
            refine ⟨by simp only [List.length_set]; exact en'.len, fun j t et => ?_⟩
            by_cases hj : i = j
            · subst hj
              rw [List.getElem?_set_self (by rw [List.length_set]; exact hlt)] at et
              cases et
            · rw [List.getElem?_set_ne hj] at et ⊢
              by_cases hk : v = j
              · subst hk
                have hv' : v < e.length := by
                  have := (List.getElem?_eq_some_iff.mp et).1
                  simpa using this
                rw [List.getElem?_set_self hv'] at et
                cases et
                refine ⟨.str _, ?_, dn_str⟩
                rw [List.getElem?_set_self (by rw [List.length_set, ← en'.len]; exact hv')]
              · rw [List.getElem?_set_ne hk] at et ⊢
                rw [List.getElem?_set_ne hj]
                exact en'.at' j t et
          exact z _ H' ν' μ' af e1
end
end Mp
namespace Mp
open PySem L2 PySem.Spec PyProof.Rows
/-! ### tuples of ints of any lengths, sorted: plain -/
theorem lexN_asym : ∀ {x y : List Int}, lexN x y = true → lexN y x = false
  | [], [], h => by cases h
  | [], _ :: _, _ => rfl
  | _ :: _, [], h => by cases h
  | x :: xs, y :: ys, h => by
    simp only [lexN] at h ⊢
    by_cases e : x = y
    · rw [if_pos e] at h
      rw [if_pos e.symm]
      exact lexN_asym h
    · rw [if_neg e] at h
      rw [if_neg (fun z => e z.symm)]
      have := of_decide_eq_true h
      exact decide_eq_false (by omega)
theorem lexN_tr : ∀ {x y z : List Int}, lexN x y = false → lexN y z = false → lexN x z = false
  | [], [], z, _, h2 => h2
  | [], _ :: _, _, h1, _ => by cases h1
  | _ :: _, _, [], _, _ => rfl
  | _ :: _, [], _ :: _, _, h2 => by cases h2
  | x :: xs, y :: ys, z :: zs, h1, h2 => by
    simp only [lexN] at h1 h2 ⊢
    by_cases e1 : x = y
    · by_cases e2 : y = z
      · rw [if_pos e1] at h1
        rw [if_pos e2] at h2
        rw [if_pos (e1.trans e2)]
        exact lexN_tr h1 h2
      · rw [if_neg e2] at h2
        rw [if_neg (by rw [e1]; exact e2), e1]
        exact h2
    · rw [if_neg e1] at h1
      have a1 := of_decide_eq_false h1
      by_cases e2 : y = z
      · rw [if_neg (by rw [← e2]; exact e1), ← e2]
        exact h1
      · rw [if_neg e2] at h2
        have a2 := of_decide_eq_false h2
        rw [if_neg (by omega)]
        exact decide_eq_false (by omega)
theorem swo_lexN {α : Type} (k : α → List Int) : SrtO.Swo fun v u => lexN (k v) (k u) := ⟨fun _ _ h => lexN_asym h, fun _ _ _ h1 h2 => lexN_tr h2 h1⟩
theorem ins_split {α : Type} {lt : α → α → Bool} (O : SrtO.Swo lt) {x : α} : ∀ {l : List α}, SrtO.Srtd lt l → ∃ M N, l = M ++ N ∧ insB lt x l = M ++ x :: N ∧ (∀ m ∈ M, lt x m = false) ∧ ∀ n ∈ N, lt x n = true
  | [], _ => ⟨[], [], rfl, rfl, fun m h => (List.not_mem_nil h).elim, fun m h => (List.not_mem_nil h).elim⟩
  | y :: l, h => by
    unfold insB
    by_cases c : lt x y = true
    · rw [if_pos c]
      exact ⟨[], y :: l, rfl, rfl, fun m h => (List.not_mem_nil h).elim, O.lt_all h c⟩
    · rw [if_neg c]
      obtain ⟨M, N, e1, e2, h1, h2⟩ := ins_split O (x := x) (List.pairwise_cons.mp h).2
      refine ⟨y :: M, N, by rw [e1]; rfl, by rw [e2]; rfl, fun m hm => ?_, h2⟩
      rcases List.mem_cons.mp hm with rfl | hm
      · simpa using c
      · exact h1 m hm
theorem isort_spec {α : Type} {lt : α → α → Bool} (O : SrtO.Swo lt) (l : List α) : SrtO.Srtd lt (isort lt l) ∧ SrtO.Stb lt (isort lt l) l := by
  have go : ∀ (l a d : List α), SrtO.Srtd lt a → SrtO.Stb lt a d → SrtO.Srtd lt (l.foldl (fun a x => insB lt x a) a) ∧ SrtO.Stb lt (l.foldl (fun a x => insB lt x a) a) (d ++ l) := by
    intro l
    induction l with
    | nil =>
      intro a d h1 h2
      rw [List.append_nil]
      exact ⟨h1, h2⟩
    | cons x l ih =>
      intro a d h1 h2
      rw [List.foldl_cons]
      obtain ⟨M, N, e1, e2, k1, k2⟩ := ins_split O (x := x) h1
      rw [e2]
      subst e1
      have z := ih (M ++ x :: N) (d ++ [x]) (SrtO.ins_srtd O h1 k1 k2) (SrtO.ins_stb O k2 h2)
      rw [List.append_assoc] at z
      exact z
  have z := go l [] [] List.Pairwise.nil (SrtO.Stb.refl [])
  rw [List.nil_append] at z
  exact z
theorem insB_map {α β : Type} {lt : β → β → Bool} (f : α → β) (x : α) : ∀ l : List α, insB lt (f x) (l.map f) = (insB (fun a b => lt (f a) (f b)) x l).map f
  | [] => rfl
  | y :: l => by
    simp only [List.map_cons, insB]
    rw [insB_map f x l]
    split <;> rfl
theorem isort_map {α β : Type} {lt : β → β → Bool} (f : α → β) (l : List α) : isort lt (l.map f) = (isort (fun a b => lt (f a) (f b)) l).map f := by
  have go : ∀ (l a : List α), (l.map f).foldl (fun a x => insB lt x a) (a.map f) = (l.foldl (fun a x => insB (fun a b => lt (f a) (f b)) x a) a).map f := by
    intro l
    induction l with
    | nil => intro a; rfl
    | cons x l ih =>
      intro a
      rw [List.map_cons, List.foldl_cons, List.foldl_cons, insB_map, ih]
  exact go l []
theorem insB_mem {α : Type} {lt : α → α → Bool} {x y : α} : ∀ {l : List α}, y ∈ insB lt x l → y = x ∨ y ∈ l
  | [], h => .inl (List.mem_singleton.mp h)
  | z :: l, h => by
    unfold insB at h
    split at h
    · rcases List.mem_cons.mp h with e | h
      · exact .inl e
      · exact .inr h
    · rcases List.mem_cons.mp h with e | h
      · exact .inr (by rw [e]; exact List.mem_cons_self)
      · rcases insB_mem h with e | h
        · exact .inl e
        · exact .inr (List.mem_cons_of_mem _ h)
theorem insB_congr {α : Type} {lt lt' : α → α → Bool} {x : α} : ∀ {l : List α}, (∀ y ∈ l, lt x y = lt' x y) → insB lt x l = insB lt' x l
  | [], _ => rfl
  | y :: l, h => by
    unfold insB
    rw [h y List.mem_cons_self, insB_congr fun z hz => h z (List.mem_cons_of_mem _ hz)]
theorem isort_congr {α : Type} {lt lt' : α → α → Bool} {l : List α} (h : ∀ x ∈ l, ∀ y ∈ l, lt x y = lt' x y) : isort lt l = isort lt' l := by
  have go : ∀ (m a : List α), (∀ x ∈ m, x ∈ l) → (∀ x ∈ a, x ∈ l) → m.foldl (fun a x => insB lt x a) a = m.foldl (fun a x => insB lt' x a) a := by
    intro m
    induction m with
    | nil => intro a _ _; rfl
    | cons x m ih =>
      intro a hm ha
      have hx := hm x List.mem_cons_self
      rw [List.foldl_cons, List.foldl_cons, insB_congr fun y hy => h x hx y (ha y hy)]
      refine ih _ (fun y hy => hm y (List.mem_cons_of_mem _ hy)) fun y hy => ?_
      rcases insB_mem hy with e | hy
      · rw [e]; exact hx
      · exact ha y hy
  exact go l [] (fun _ h => h) fun _ h => (List.not_mem_nil h).elim
theorem isort_mem {α : Type} {lt : α → α → Bool} (O : SrtO.Swo lt) {l : List α} {x : α} : x ∈ isort lt l ↔ x ∈ l := (isort_spec O l).2.perm.mem_iff
/-! ### the machine's comparison -/
def lexF (fin : Bool) : List Int → List Int → Bool
  | x :: xs, y :: ys => if x = y then lexF fin xs ys else decide (x < y)
  | _, _ => fin
theorem lexF_N : ∀ {x y : List Int}, lexF (decide (x.length < y.length)) x y = lexN x y
  | [], [] => rfl
  | [], y :: ys => by
    show decide (0 < ys.length + 1) = true
    exact decide_eq_true (by omega)
  | x :: xs, [] => by
    show decide (xs.length + 1 < 0) = false
    exact decide_eq_false (by omega)
  | x :: xs, y :: ys => by
    simp only [lexF, lexN, List.length_cons]
    have e : decide (xs.length + 1 < ys.length + 1) = decide (xs.length < ys.length) := decide_eq_decide.mpr (by omega)
    rw [e, lexF_N]
section
variable {prog : Program} {w : World} {A : Around} {E : Value → Shared → Prop} {s : Shared}
theorem lex_intsN {Q : Bool → Shared → Prop} {b fin : Bool} {xs ys : List Value} {ns ms : List Int} (i : Nat) (hx : IntsAre xs ns) (hy : IntsAre ys ms) (h : Q (lexF fin ns ms) s) : PySem.W.KatLex prog w A b fin Q (xs.zip ys) i s := by
  induction hx generalizing ys ms i with
  | nil =>
    have e : lexF fin [] ms = fin := by cases ms <;> rfl
    rw [e] at h
    exact PySem.W.kat_nil h
  | @cons p t xs ns hx ih =>
    cases hy with
    | nil => exact PySem.W.kat_nil h
    | @cons q u ys ms hy =>
      show PySem.W.KatLex prog w A b fin Q ((Value.int p t, Value.int q u) :: xs.zip ys) i s
      refine PySem.W.kat_cons (wpAny_eqBool_int ?_)
      simp only [lexF] at h
      by_cases e : p = q
      · subst e
        rw [beq_self_eq_true]
        rw [if_pos rfl] at h
        refine PySem.W.kat_yes ?_
        exact ih (i + 1) hy h
      · rw [show (p == q) = false from beq_eq_false_iff_ne.mpr e]
        rw [if_neg e] at h
        exact PySem.W.kat_no (TS.oneLt_ints _ h)
theorem cmpN {vs : List Value} {k : Value → List Int} (hp : ∀ v ∈ vs, TS.TupInts s.heap v (k v)) : SrtO.Cmp prog w A s (tuples' true) (fun p => p.1 ∈ vs) (SrtO.lt2 fun v u => lexN (k v) (k u)) := by
  intro p q hm hm'
  have h1 := hp _ hm
  have h2 := hp _ hm'
  show wpAny (model prog w) A (keyLt' (tuples' true) p.1 q.1) (fun r s' => s' = s ∧ r = lexN (k p.1) (k q.1)) (fun _ _ => False) s
  obtain ⟨a, xs, e, ⟨o, ho, hc, n, hd⟩, i1⟩ := h1
  obtain ⟨a', ys, e', ⟨o', ho', hc', n', hd'⟩, i2⟩ := h2
  rw [e, e']
  refine PySem.W.kat_lt ho hd ho' hd' (lex_intsN 0 i1 i2 ⟨rfl, ?_⟩)
  have l1 := i1.length
  have l2 := i2.length
  rw [← e, ← e'] 
  rw [← lexF_N]
  congr 1
  rw [← l1, ← l2, Array.length_toList, Array.length_toList]
theorem firstsN {h : Heap} : ∀ vs : List Value, (∀ v ∈ vs, ∃ ns, TS.TupInts h v ns ∧ ns ≠ []) → ∃ fs, PySem.W.KatTups h vs fs ∧ fs.length = vs.length ∧ ∀ f, f ∈ fs → ∃ n t, f = Value.int n t
  | [], _ => ⟨[], PySem.W.KatTups.nil, rfl, fun f hf => by simp at hf⟩
  | v :: vs, x => by
    obtain ⟨fs, k, hl, hi⟩ := firstsN vs fun u hu => x u (List.mem_cons_of_mem _ hu)
    obtain ⟨ns, ⟨a, xs, rfl, ⟨o, ho, hc, n, hdt⟩, i⟩, hn⟩ := x v (List.mem_cons_self ..)
    obtain ⟨y, ys, e⟩ : ∃ y ys, xs.toList = y :: ys := by
      cases q : xs.toList with
      | nil =>
        rw [q] at i
        have l := i.length
        rw [List.length_nil] at l
        exact absurd (List.eq_nil_of_length_eq_zero l.symm) hn
      | cons y ys => exact ⟨y, ys, rfl⟩
    obtain ⟨m, t, hy⟩ := i.all y (by rw [e]; exact List.mem_cons_self ..)
    refine ⟨y :: fs, PySem.W.KatTups.cons ho hc hdt ?_ k, by simp [hl], ?_⟩
    · have z := congrArg (fun l : List Value => l[0]?) e
      simpa using z
    · intro f hf
      rcases List.mem_cons.mp hf with rfl | hf
      · exact ⟨m, t, hy⟩
      · exact hi f hf
theorem sortableN {a : Addr} {vs : List Value} {k : Value → List Int} (h0 : 0 < vs.length) (hp : ∀ v ∈ vs, TS.TupInts s.heap v (k v) ∧ k v ≠ []) (ha : ∀ o, s.heap.get? a = some o → o.cls ≠ .type "tuple") : SrtO.SortableO prog w A s a vs fun v u => lexN (k v) (k u) := by
  intro h' keep
  have hp' : ∀ v ∈ vs, TS.TupInts h' v (k v) := fun v hm => (hp v hm).1.keeps fun b o e c => keep b o (fun z => by subst z; exact ha o e c) e
  obtain ⟨fs, h1, h2, h3⟩ := firstsN vs fun v hm => ⟨k v, hp' v hm, (hp v hm).2⟩
  refine ⟨tuples' true, fun Q E hq => ?_, cmpN hp'⟩
  refine PySem.W.kat_kind (T := .type "int") h1 (by omega) (fun f hm => ?_) (by rfl) ?_
  · obtain ⟨x, t, rfl⟩ := h3 f hm
    exact PySem.W.Looks.now
  · have e : (Value.type "int" != Value.type "tuple") = true := by first | decide +kernel | rfl | decide
    rw [e]
    exact hq
end
/-! ### as a rule of the layer -/
def rSortN (K : PySem.W.Frag) : List V → Hp → VK → Prop := fun vs H Q => ∃ (a : Addr) (zs : List (V × List Int)), vs = [V.ref a] ∧ SqL K H a (zs.map (·.1)) ∧ (∀ z ∈ zs, z.2 ≠ [] ∧ TupI K H z.1 z.2) ∧
  ∀ p, H p = none → Q (.ref p) (upd H p (.lst ((isort (fun x y => lexN x.2 y.2) zs).map (·.1))))
def toVal : V → Value
  | .ref a => .ref a
  | _ => .none
theorem vals_to : ∀ {zs : List (V × List Int)} {us : List Value}, Vals (zs.map (·.1)) us → (∀ z ∈ zs, ∃ a, z.1 = V.ref a) → us = zs.map fun z => toVal z.1
  | [], _, h, _ => by cases h; rfl
  | z :: zs, us, h, hr => by
    cases h with
    | cons r t =>
      obtain ⟨a, e⟩ := hr z List.mem_cons_self
      rw [vals_to t fun y hy => hr y (List.mem_cons_of_mem _ hy), List.map_cons]
      congr 1
      have r : L2.RelV z.1 _ := r
      rw [e] at r ⊢
      exact r
theorem to_vals : ∀ {zs : List (V × List Int)}, (∀ z ∈ zs, ∃ a, z.1 = V.ref a) → Vals (zs.map (·.1)) (zs.map fun z => toVal z.1)
  | [], _ => .nil
  | z :: zs, hr => by
    obtain ⟨a, e⟩ := hr z List.mem_cons_self
    refine .cons ?_ (to_vals fun y hy => hr y (List.mem_cons_of_mem _ hy))
    show L2.RelV z.1 (toVal z.1)
    rw [e]
    exact (show RelV (.ref a) (.ref a) from rfl)
section
variable {X : Cx}
theorem cr_sortN : CallR X (.builtin "sorted") (rSortN X.K) := by
  intro pins s σ H vs us Q I r h
  obtain ⟨a, zs, rfl, hs, hx, q⟩ := h
  obtain ⟨its, rv, hl, hz⟩ := I.list hs
  rw [Vals.ref1 r]
  have hr : ∀ z ∈ zs, ∃ a, z.1 = V.ref a := fun z m => by
    obtain ⟨_, t, e, _⟩ := hx z m
    exact ⟨t, e⟩
  have ei := vals_to rv hr
  have tk : ∀ z ∈ zs, TS.TupInts s.heap (toVal z.1) z.2 := fun z m => by
    obtain ⟨_, t, e, ht⟩ := hx z m
    rw [e]
    exact tupI_raw I ht
  have key : ∀ z ∈ zs, TS.intsOf s.heap (toVal z.1) = z.2 := fun z m => (tk z m).ints
  have tv : ∀ v ∈ its, TS.TupInts s.heap v (TS.intsOf s.heap v) ∧ TS.intsOf s.heap v ≠ [] := fun v hv => by
    rw [ei] at hv
    obtain ⟨z, m, rfl⟩ := List.mem_map.mp hv
    rw [key z m]
    exact ⟨tk z m, (hx z m).1⟩
  refine SrtO.sorted_ord (swo_lexN (TS.intsOf s.heap)) hl.isList (by rw [← rv.length]; exact hz) (fun h2 h₁ a' ha kk => ?_) fun out h1 h2 => ?_
  · refine sortableN (s := { s with heap := h₁ }) (by omega) (fun v hv => ⟨(tv v hv).1.keeps fun b o e _ => (kk b o e).2, (tv v hv).2⟩) fun o e => ?_
    have e' : some o = some (seqObj "list" its.toArray 0) := e.symm.trans ha
    cases e'
    intro c
    exact absurd (Value.type.inj c) (by decide)
  · have O := swo_lexN (TS.intsOf s.heap)
    have sp := isort_spec O its
    have eo : out = isort (fun v u => lexN (TS.intsOf s.heap v) (TS.intsOf s.heap u)) its := SrtO.stb_uniq O h1 sp.1 (h2.trans ⟨sp.2.perm.symm, fun x => (sp.2.cls x).symm⟩)
    have es : isort (fun v u => lexN (TS.intsOf s.heap v) (TS.intsOf s.heap u)) its = (isort (fun x y : V × List Int => lexN x.2 y.2) zs).map fun z => toVal z.1 := by
      rw [ei, isort_map]
      congr 1
      exact isort_congr fun x hx y hy => by rw [key x hx, key y hy]
    have hr2 : ∀ z ∈ isort (fun x y : V × List Int => lexN x.2 y.2) zs, ∃ a, z.1 = V.ref a := fun z m => hr z ((isort_mem (swo_lexN fun z : V × List Int => z.2)).mp m)
    have lz : (isort (fun x y : V × List Int => lexN x.2 y.2) zs).length = zs.length := (isort_spec (swo_lexN fun z : V × List Int => z.2) zs).2.len
    obtain ⟨ep, he'⟩ := PyProof.Rows.sortedAll_at s.heap its out.toArray
    rw [eo, es] at he'
    refine ⟨.ref _, upd H (s.heap.objs.size + 1) (.lst ((isort (fun x y : V × List Int => lexN x.2 y.2) zs).map (·.1))), I.laid (t' := s.toks) (fun _ _ => PyProof.Rows.sortedAll_old) (Nat.le_succ _) ⟨?_, _, ep, to_vals hr2, ?_⟩, rfl, q _ (I.hok.fresh (Nat.le_succ _))⟩
    · rw [List.length_map, lz]
      rw [List.length_map] at hz
      exact hz
    · rw [eo, es]
      exact he'
end
/-! ### sorted(xs) as a list of one's own -/
theorem dns_pairs {G : Wd} {ν μ : List Addr} {H : Hp} : ∀ {ts : List Tv} {vs : List V}, Dns G ν μ H ts vs → ∃ w : List (Tv × V), ts = w.map (·.1) ∧ vs = w.map (·.2) ∧ ∀ p ∈ w, Dn G ν μ H p.1 p.2
  | [], vs, h => by
    simp only [Dns] at h
    exact ⟨[], rfl, h, fun p hp => (List.not_mem_nil hp).elim⟩
  | t :: r, vs, h => by
    simp only [Dns] at h
    obtain ⟨v, vr, e, d, ds⟩ := h
    obtain ⟨w, e1, e2, hw⟩ := dns_pairs ds
    refine ⟨(t, v) :: w, by rw [e1]; rfl, by rw [e, e2]; rfl, fun p hp => ?_⟩
    rcases List.mem_cons.mp hp with rfl | hp
    · exact d
    · exact hw p hp
theorem dns_of_pairs {G : Wd} {ν μ : List Addr} {H : Hp} : ∀ {w : List (Tv × V)}, (∀ p ∈ w, Dn G ν μ H p.1 p.2) → Dns G ν μ H (w.map (·.1)) (w.map (·.2))
  | [], _ => by simp only [List.map_nil, Dns]
  | p :: w, h => by
    simp only [List.map_cons, Dns]
    exact ⟨_, _, rfl, h p List.mem_cons_self, dns_of_pairs fun q hq => h q (List.mem_cons_of_mem _ hq)⟩
theorem tup_nt {G : Wd} {ν μ : List Addr} {H : Hp} {t : Tv} {v : V} (d : Dn G ν μ H t v) (h : isNT t = true) : keyT t ≠ [] ∧ TupI G.K H v (keyT t) := by
  cases t with
  | tup ts =>
    cases ts with
    | nil => cases h
    | cons u us =>
      have h : (intsOf (u :: us)).isSome = true := h
      obtain ⟨ns, e⟩ := Option.isSome_iff_exists.mp h
      have ek : keyT (.tup (u :: us)) = ns := by
        show (intsOf (u :: us)).getD [] = ns
        rw [e]
        rfl
      simp only [Dn] at d
      obtain ⟨a, vs, rfl, f, ds⟩ := d
      have ev := ints_of ds e
      subst ev
      rw [ek]
      refine ⟨fun z => ?_, a, rfl, f.sq⟩
      have l := ds.length
      rw [List.length_map, z] at l
      cases l
  | _ => cases h
theorem dns_ints2 {G : Wd} {ν μ : List Addr} {H : Hp} : ∀ ns : List Int, Dns G ν μ H (ns.map Tv.int) (ns.map V.int)
  | [] => by simp only [List.map_nil, Dns]
  | n :: r => by
    simp only [List.map_cons, Dns]
    exact ⟨_, _, rfl, dn_int, dns_ints2 r⟩
theorem swo_ltI : SrtO.Swo ltI := by
  refine ⟨fun x y h => ?_, fun x y z h1 h2 => ?_⟩
  · have := of_decide_eq_true h
    exact decide_eq_false (by omega)
  · have a1 := of_decide_eq_false h1
    have a2 := of_decide_eq_false h2
    exact decide_eq_false (by omega)
theorem asc_perm : ∀ {a b : List Int}, a.Pairwise (· ≤ ·) → b.Pairwise (· ≤ ·) → a.Perm b → a = b
  | [], b, _, _, p => (List.Perm.eq_nil p.symm).symm
  | x :: a, [], _, _, p => absurd p.length_eq (by simp)
  | x :: a, y :: b, ha, hb, p => by
    obtain ⟨a1, a2⟩ := List.pairwise_cons.mp ha
    obtain ⟨b1, b2⟩ := List.pairwise_cons.mp hb
    have e : x = y := by
      have h1 : y ≤ x := by
        rcases List.mem_cons.mp (p.mem_iff.mp (List.mem_cons_self (a := x))) with e | h
        · omega
        · exact b1 x h
      have h2 : x ≤ y := by
        rcases List.mem_cons.mp (p.mem_iff.mpr (List.mem_cons_self (a := y))) with e | h
        · omega
        · exact a1 y h
      omega
    subst e
    rw [asc_perm a2 b2 p.cons_inv]
theorem isortI_eq {ns out : List Int} (p : out.Perm ns) (s : out.Pairwise (· ≤ ·)) : out = isort ltI ns := by
  obtain ⟨h1, h2⟩ := isort_spec swo_ltI ns
  refine asc_perm s (List.Pairwise.imp (fun {x y} h => ?_) h1) (p.trans h2.perm.symm)
  have := of_decide_eq_false h
  omega
section
variable {G : Wd} {n : Nat} {N : List Str} {sc : Scope} {W : WX} {X : Cx} {a : Expr} {f : Env → M Tv} {p pos : Pos}
theorem cr_srt : CallR X (.builtin "sorted") (fun vs H Q => rSortN X.K vs H Q ∨ rSortedI X.K vs H Q) := by
  intro pins s σ H vs us Q I r h
  rcases h with h | h
  · exact cr_sortN pins s σ H vs us Q I r h
  · exact cr_sortedI pins s σ H vs us Q I r h
theorem s_srtL (g : Gd G n N sc W X) (hg : Gl X "sorted") (hm : G.mg "sorted" = none) (ns : notStar a = true) (ha : PE X a (tE G W f)) : PE X (.Call (.Name "sorted" p) [a] [] pos) (tL G W fun env => bnd (f env) fun x S => opt (srtLV S x) S) := by
  refine PE.imp (pe_callB cr_srt hg (by rw [g.iw.mg]; exact hm) (by decide +kernel) (pa_one ns ha) (by decide) (by decide) (star_cons ns []) rfl) fun σ H Q ⟨env, S, ν, μ, r, z⟩ => ?_
  refine tA_one r ?_
  simp only [bnd] at z
  cases e : f env S with
  | ok t S1 =>
    rw [e] at z
    intro v H1 ν1 μ1 a1 d
    simp only [Rs.bnd] at z
    cases e2 : srtLV S1 t with
    | none => rw [e2] at z; exact z.elim
    | some out =>
      rw [e2] at z
      obtain ⟨ts, h1, h2⟩ := Option.bind_eq_some_iff.mp (show (lstOf S1 t).bind _ = some out from e2)
      obtain ⟨q, vs, rfl, hq, d1⟩ := lst_of a1.st d h1
      have fin : ∀ ws : List V, Dns G ν1 μ1 H1 out ws → ∀ l, H1 l = none → Q (.ref l) (upd H1 l (.lst ws)) := fun ws dw l hl => by
        obtain ⟨n1, n2, n3⟩ := new_none a1.st a1.kp hl
        have a2 := Af.place0 (vs := ws) a1.st hl
        exact z (.ref l) _ _ _ (a1.trans a2) ⟨l, ws, rfl, List.mem_cons_self, fun m => n1 (a1.st.sub l m), n2, n3, upd_same, Dns.af a2 dw⟩
      cases ei : intsOf ts with
      | some ks =>
        rw [ei] at h2
        have h2 := Option.some.inj h2
        have ev := ints_of d1 ei
        subst ev
        refine .inr ⟨q, ks, rfl, .inl (.inl hq), fun ns' l hp hs hl => ?_⟩
        have eo := isortI_eq hp hs
        rw [eo]
        exact fin _ (by rw [← h2]; exact dns_ints2 _) l hl
      | none =>
        rw [ei] at h2
        simp only at h2
        split at h2
        case isFalse => cases h2
        rename_i hall
        have h2 := Option.some.inj h2
        obtain ⟨w, e3, e4, hw⟩ := dns_pairs d1
        subst e3 e4
        have nt : ∀ p ∈ w, isNT p.1 = true := fun p hp => List.all_eq_true.mp hall _ (List.mem_map.mpr ⟨p, hp, rfl⟩)
        refine .inl ⟨q, w.map fun p => (p.2, keyT p.1), rfl, ?_, fun z hz => ?_, fun l hl => ?_⟩
        · rw [List.map_map]
          exact .inl (.inl hq)
        · obtain ⟨p, hp, rfl⟩ := List.mem_map.mp hz
          have k := tup_nt (hw p hp) (nt p hp)
          rw [g.iw.K]
          exact k
        · rw [isort_map, List.map_map]
          refine fin _ ?_ l hl
          rw [← h2, isort_map]
          have O := swo_lexN fun p : Tv × V => keyT p.1
          exact dns_of_pairs fun p hp => hw p ((isort_mem O).mp hp)
  | ex c fs S1 => rw [e] at z; exact z
  | bad => rw [e] at z; exact z
end
end Mp
namespace Mp
open PySem L2 PySem.Spec PyProof.Rows
/-! ### set(xs), xs a list of ints; sorted of it -/
abbrev newSet (w : World) : Obj := { cls := .type "set", dict := none, data := .set #[] 0 (.fresh 0 0 (!w.params.followText "set-order")) }
section
variable {P : Program} {w : World} {A : Around} {E : Value → Shared → Prop} {s : Shared}
theorem set_list_ints {x : Addr} {its : Array Value} (ks : List Int) {Q : Value → Shared → Prop} (no : A.handled = none) (xl : s.heap.IsList x its) (xi : IntsAre its.toList ks) (few : ks.length + 1 < scanBound)
    (fin : ∀ (g : Heap) (tk c : Nat), SetR w g s.heap.objs.size (fun j => decide (j ∈ ks)) c → c ≤ ks.length → (∀ b o, s.heap.get? b = some o → g.get? b = some o) → Q (.ref s.heap.objs.size) { s with heap := g, toks := tk }) :
    wpAny (model P w) A (call (.type "set") [.ref x]) Q E s := by
  have size : its.size = ks.length := by
    have z := xi.length
    rwa [Array.length_toList] at z
  obtain ⟨mc, mt, mro⟩ := F.called_set.mro
  obtain made := F.called_set.made
  obtain sub := F.called_set.sub
  apply wpAny_call
  apply codeAny_of_tree
  show wpAny _ _ (callAny (.type "set") _) _ _ _
  apply wpAny_pure
  refine ⟨Code.quiet_builtin _ (by decide +kernel), ?_⟩
  apply codeAny_builtin F.entry_type_call
  rw [Around.under_plain (weight_type_call_type "set" [.ref x] []) rfl]
  obtain q1 := F.called_set.notType
  obtain q2 := F.called_set.canCreate
  obtain q3 := F.typeCall_set_1 (.ref x)
  repeat (any_goals (first | assumption | wp_step))
  refine codeAny_mono (code_set_led1 (w := w) (.ref x) (E := E)
    (Q₁ := fun v u => v = .ref s.heap.objs.size ∧ u = { s with heap := s.heap.push (newSet w) })
    ⟨rfl, rfl⟩) fun r u hr => ?_
  match r, hr with
  | .error e, hr => exact hr
  | .ok fl, hr =>
    match fl, hr with
    | .ret v, hr =>
      obtain ⟨e1, e2⟩ := hr
      subst e1 e2
      have at0 : (s.heap.push (newSet w)).get? s.heap.objs.size = some (newSet w) := Heap.get?_push_size _ rfl
      have ty : Shared.TypeIs { s with heap := s.heap.push (newSet w) } (.ref s.heap.objs.size) "set" := ⟨_, at0, rfl⟩
      obtain look := F.called_set.init.lookup
      obtain bind := F.called_set.init.bind (.ref s.heap.objs.size)
      repeat (any_goals (first | assumption | wp_step))
      refine codeAny_mono (codeAny_call_builtin (R := wants (fun v u => v = .none ∧ ∃ g tk c, u = { s with heap := g, toks := tk } ∧ SetR w g s.heap.objs.size (fun j => decide (j ∈ ks)) c ∧ c ≤ ks.length ∧ (∀ b o, s.heap.get? b = some o → g.get? b = some o)) E)
        F.called_set.init.plain F.entry_set_init (check_set_init_1 ty ?init)) fun r2 u2 h2 => ?_
      case init =>
        obtain ⟨⟨oc, od, dt, os⟩, ho, hc, k, hd⟩ := xl
        obtain rfl : oc = _ := hc
        obtain rfl : dt = _ := hd
        have lt : x < s.heap.objs.size := Heap.lt_size ho
        have xl2 : (s.heap.push (newSet w)).IsList x its := ⟨_, Heap.get?_push_of_some _ ho, rfl, k, rfl⟩
        have ho2 : (s.heap.push (newSet w)).get? x = some { cls := .type "list", dict := od, data := .seq its k, slots := os } := Heap.get?_push_of_some _ ho
        obtain s1 := F.sub_list_set
        obtain s2 := F.sub_list_frozenset
        have nd : (Value.type "list" == Value.type "dict") = false := by decide
        unfold Builtin.«set.__init__» noKeywords Builtin.Frozenset.updateFrom
        generalize eI : pyIter = PI
        wp_walk
        subst eI
        apply wpAny_pyIter_list xl2
        apply wpAny_bind
        apply wpAny_runValue
        have no3 : A.in1.in1.in1.handled = none := by simp [no]
        have sz : (s.heap.push (newSet w)).objs.size = s.heap.objs.size + 1 := Heap.size_push ..
        have nI : x ≠ (s.heap.push (newSet w)).objs.size := by
          rw [sz]
          exact Nat.ne_of_lt (Nat.lt_succ_of_lt lt)
        have nS : s.heap.objs.size ∉ [(s.heap.push (newSet w)).objs.size, x] := by
          rw [sz]
          intro z
          rcases List.mem_cons.mp z with z | z
          · exact absurd z (Nat.ne_of_lt (Nat.lt_succ_self _))
          · have e := List.mem_singleton.mp z
            exact absurd e.symm (Nat.ne_of_lt lt)
        have each : ∀ (i : Nat) (v : Value), its[i]? = some v → ∃ n t, ks[i]? = some n ∧ v = .int n t := fun i v hv => by
          have hi : i < ks.length := by
            have z := (Array.getElem?_eq_some_iff.mp hv).1
            omega
          obtain ⟨t, e⟩ := xi.int_at i v (by rw [Array.getElem?_toList]; exact hv)
          rw [List.getD_eq_getElem?_getD, List.getElem?_eq_getElem hi] at e
          exact ⟨ks[i], t, List.getElem?_eq_getElem hi, e⟩
        have start : SetR w ((s.heap.push (newSet w)).push { cls := .type "list_iterator", data := .fields #[.ref x, .int 0 0] }) s.heap.objs.size (fun j => decide (j ∈ ks.take 0)) 0 := setR_new_at (Heap.get?_push_of_some _ at0)
        refine set_update_ints ((Walks.list no3 _ x nI its).toS) s.heap.objs.size nS ks size few each its.size 0 _ (Nat.sub_zero _) (Nat.zero_le _) ⟨⟨_, Heap.get?_push_size _ rfl, rfl, rfl⟩, (xl2.push _)⟩ ⟨0, Nat.le_refl 0, start⟩ fun u c mv hc hR => ?_
        obtain ⟨g, gs, dr, tk, os'⟩ := u
        obtain rfl : gs = s.gens := mv.gens
        obtain rfl : dr = s.drawn := mv.drawn
        obtain rfl : os' = s.os := mv.os
        show wpAny _ _ _ _ _ _
        apply wpAny_pure
        show wpAny _ _ (PySem.ret Value.none) _ _ _
        apply wpAny_pure
        refine ⟨rfl, g, tk, c, rfl, hR, by omega, fun b o e => ?_⟩
        have bl : b < s.heap.objs.size := Heap.lt_size e
        refine mv.heap b o (fun z => ?_) (Heap.get?_push_of_some _ (Heap.get?_push_of_some _ e))
        rcases List.mem_cons.mp z with z | z
        · exact absurd z (Nat.ne_of_lt bl)
        · have e := List.mem_singleton.mp z
          rw [sz] at e
          exact absurd e (Nat.ne_of_lt (Nat.lt_succ_of_lt bl))
      match r2, h2 with
      | .error e, h2 => exact h2
      | .ok fl2, h2 =>
        match fl2, h2 with
        | .ret v2, h2 =>
          obtain ⟨e1, g, tk, c, e2, hR, hc, hk⟩ := h2
          subst e1 e2
          repeat (any_goals (first | assumption | wp_step))
          exact fin _ _ _ hR hc hk
end
section
theorem mem_oneEach {k : Int} : ∀ {ns : List Int}, k ∈ oneEach ns ↔ k ∈ ns
  | [] => Iff.rfl
  | x :: r => by
    unfold oneEach
    split
    · rename_i h
      rw [mem_oneEach, List.mem_cons]
      exact ⟨.inr, fun z => z.elim (fun e => e ▸ h) id⟩
    · rw [List.mem_cons, List.mem_cons, mem_oneEach]
theorem nodup_oneEach : ∀ {ns : List Int}, (oneEach ns).Nodup
  | [] => List.nodup_nil
  | x :: r => by
    unfold oneEach
    split
    · exact nodup_oneEach
    · rename_i h
      exact List.nodup_cons.mpr ⟨fun z => h (mem_oneEach.mp z), nodup_oneEach⟩
theorem asc_ext : ∀ {a b : List Int}, a.Pairwise (· < ·) → b.Pairwise (· < ·) → (∀ k, k ∈ a ↔ k ∈ b) → a = b
  | [], [], _, _, _ => rfl
  | [], y :: b, _, _, h => absurd ((h y).mpr List.mem_cons_self) (List.not_mem_nil)
  | x :: a, [], _, _, h => absurd ((h x).mp List.mem_cons_self) (List.not_mem_nil)
  | x :: a, y :: b, ha, hb, h => by
    obtain ⟨a1, a2⟩ := List.pairwise_cons.mp ha
    obtain ⟨b1, b2⟩ := List.pairwise_cons.mp hb
    have e : x = y := by
      have h1 : y ≤ x := by
        rcases List.mem_cons.mp ((h x).mp List.mem_cons_self) with e | z
        · omega
        · have := b1 x z
          omega
      have h2 : x ≤ y := by
        rcases List.mem_cons.mp ((h y).mpr List.mem_cons_self) with e | z
        · omega
        · have := a1 y z
          omega
      omega
    subst e
    rw [asc_ext a2 b2 fun k => ⟨fun z => ?_, fun z => ?_⟩]
    · rcases List.mem_cons.mp ((h k).mp (List.mem_cons_of_mem _ z)) with e | q
      · have := a1 k z
        omega
      · exact q
    · rcases List.mem_cons.mp ((h k).mpr (List.mem_cons_of_mem _ z)) with e | q
      · have := b1 k z
        omega
      · exact q
theorem isortE_lt (ns : List Int) : (isort ltI (oneEach ns)).Pairwise (· < ·) := by
  obtain ⟨h1, h2⟩ := isort_spec swo_ltI (oneEach ns)
  have nd : (isort ltI (oneEach ns)).Nodup := h2.perm.nodup_iff.mpr nodup_oneEach
  refine (h1.and nd).imp fun {x y} z => ?_
  have := of_decide_eq_false z.1
  have q := z.2
  omega
theorem isortE_mem {ns : List Int} {k : Int} : k ∈ isort ltI (oneEach ns) ↔ k ∈ ns := (isort_mem swo_ltI).trans mem_oneEach
theorem ints_vals : ∀ {ns : List Int} {us : List Value}, Vals (ns.map V.int) us → IntsAre us ns
  | [], _, h => by
    cases h
    exact .nil
  | n :: r, _, h => by
    cases h with
    | cons a b =>
      obtain ⟨k, rfl⟩ := a
      exact .cons n k (ints_vals b)
def tSortSet (K : PySem.W.Frag) (ta : TE) : TE := fun σ H Q => ta σ H fun x H1 => ∃ (l : Addr) (ns : List Int), x = .ref l ∧ SqL K H1 l (ns.map V.int) ∧ ns.length < 60 ∧
  ∀ q, H1 q = none → Q (.ref q) (upd H1 q (.lst ((isort ltI (oneEach ns)).map V.int)))
theorem pe_sortSet {X : Cx} {a : Expr} {ta : TE} {p p2 q pos : Pos} (hg : Gl X "sorted") (hm : X.mg "sorted" = none) (hg2 : Gl X "set") (hm2 : X.mg "set" = none) (ha : PE X a ta) (hc : X.calm = true)
    (na : starEach [a] X.env = (false, eval a X.env) :: starEach [] X.env) : PE X (.Call (.Name "sorted" p) [.Call (.Name "set" p2) [a] [] q] [] pos) (tSortSet X.K ta) := by
  refine ⟨fun pins s σ H Q I h => ?_⟩
  refine Call_ (ld_blt (u := .builtin "sorted") I hg hm (by decide +kernel) ?_)
  refine PyProof.Rows.callWith_builtin1 (PyProof.Rows.args_cons ?_ rfl) rfl rfl
  refine Call_ (ld_blt I hg2 hm2 boot_set ?_)
  refine PyProof.Rows.callWith_type1 (PyProof.Rows.args_cons (thn (ha.run pins s σ H _ I h) fun v s1 ⟨x, H1, I1, r1, q1⟩ => PyProof.Rows.args_nil ?_) na) na rfl
  obtain ⟨l, ns, rfl, hq, few, q1⟩ := q1
  cases r1
  obtain ⟨its, rv, pl, hz⟩ := I1.list hq
  have hh := I1.ok.hd hc
  refine set_list_ints ns hh pl.isList (ints_vals rv) (by unfold scanBound; omega) fun g tk c R hc' kp => ?_
  refine PyProof.Rows.args_nil ?_
  have I2 : Inv X pins σ H1 { s1 with heap := g, toks := tk } := I1.kept fun b o e => kp b o e
  refine sorted_set R (I2.ok.hd hc) (by omega) fun s' p out c2 ks k gg o hp hgt hi hs hm' hl => ?_
  have hlen : (ks.map V.int).length ≤ sizeLine := by rw [List.length_map, hl, sizeLine_eq]; omega
  have fr : H1 p = none := I2.hok.fresh hp
  have ek : ks = isort ltI (oneEach ns) := asc_ext hs (isortE_lt ns) fun j => by
    rw [hm' j, isortE_mem]
    exact decide_eq_true_iff
  have k2 : ∀ b u, s1.heap.get? b = some u → s'.heap.get? b = some u := fun b u e => k b u (kp b u e)
  have J : Inv X pins σ (upd H1 p (.lst (ks.map V.int))) { s1 with heap := s'.heap, gens := s'.gens, drawn := s'.drawn, toks := s'.toks } :=
    I1.call (ch := []) (Un.laid k2 (Nat.le_trans (Nat.le_of_lt R.lt) hp) fr) (I1.hok.laid k2 (Nat.le_trans (Nat.le_of_lt R.lt) hp) ⟨hlen, out.toList, c2, vals_of_ints hi, hgt⟩) (by rw [gg]; exact I1.bare) (fun _ z => nomatch z)
  have e : s' = { s1 with heap := s'.heap, gens := s'.gens, drawn := s'.drawn, toks := s'.toks } := by
    cases s'
    cases s1
    cases o
    rfl
  rw [e]
  exact ⟨.ref p, _, J, rfl, by rw [ek]; exact q1 p fr⟩
end
section
variable {G : Wd} {n : Nat} {N : List Str} {sc : Scope} {W : WX} {X : Cx} {a : Expr} {f : Env → M Tv} {p p1 p2 pos : Pos}
theorem s_srtS (g : Gd G n N sc W X) (hg : Gl X "sorted") (hm : G.mg "sorted" = none) (hg2 : Gl X "set") (hm2 : G.mg "set" = none) (ns : notStar a = true) (ha : PE X a (tE G W f)) :
    PE X (.Call (.Name "sorted" p) [.Call (.Name "set" p1) [a] [] p2] [] pos) (tL G W fun env => bnd (f env) fun x S => opt (srtSV S x) S) := by
  refine PE.imp (pe_sortSet hg (by rw [g.iw.mg]; exact hm) hg2 (by rw [g.iw.mg]; exact hm2) ha g.calm (star_cons ns [])) fun σ H Q ⟨env, S, ν, μ, r, z⟩ => ?_
  refine ⟨env, S, ν, μ, r, ?_⟩
  simp only [bnd] at z
  cases e : f env S with
  | ok t S1 =>
    rw [e] at z
    intro v H1 ν1 μ1 a1 d
    simp only [Rs.bnd] at z
    cases e2 : srtSV S1 t with
    | none => rw [e2] at z; exact z.elim
    | some out =>
      rw [e2] at z
      obtain ⟨ts, h1, h2⟩ := Option.bind_eq_some_iff.mp (show (lstOf S1 t).bind _ = some out from e2)
      obtain ⟨ks, h3, h4⟩ := Option.bind_eq_some_iff.mp h2
      split at h4
      case isFalse => cases h4
      rename_i few
      have h4 := Option.some.inj h4
      obtain ⟨q, vs, rfl, hq, d1⟩ := lst_of a1.st d h1
      have ev := ints_of d1 h3
      subst ev
      refine ⟨q, ks, rfl, .inl (.inl hq), few, fun l hl => ?_⟩
      obtain ⟨n1, n2, n3⟩ := new_none a1.st a1.kp hl
      have a2 := Af.place0 (vs := (isort ltI (oneEach ks)).map V.int) a1.st hl
      refine z (.ref l) _ _ _ (a1.trans a2) ⟨l, _, rfl, List.mem_cons_self, fun m => n1 (a1.st.sub l m), n2, n3, upd_same, Dns.af a2 ?_⟩
      rw [← h4]
      exact dns_ints2 _
  | ex c fs S1 => rw [e] at z; exact z
  | bad => rw [e] at z; exact z
end
end Mp
namespace Mp
open PySem L2 PySem.Spec PyProof.Rows
open PySem.AutoSeq1 (wpAny_loadPart')
/-- a tuple once is the tuple -/
theorem tup_once (l : Addr) (us : Array Value) (n : Nat) (dd : Option Addr) (sl : Array (Option Value)) (u : Tok) :
    Meets (Builtin.«tuple.__mul__» ⟨[.ref l, .int 1 u], []⟩) (fun _ R s => s.heap.get? l = some { cls := .type "tuple", dict := dd, data := .seq us n, slots := sl } ∧ R (.ok (.ret (Value.ref l))) s) :=
  .of_wp fun prog w A R s h => by
    obtain ⟨hp, g, d, tk, os⟩ := s
    obtain ⟨hl, h⟩ := h
    have f1 := AutoSeq1.idx_int
    have c1 : (us.isEmpty || (1 : Int) == 1) = true := by simp
    wp_walk using wpAny_loadPart' hl
    repeat (first
      | (refine wpAny_ite_false (decide_eq_false (by decide)) ?_; wp_walk using wpAny_loadPart' hl)
      | (refine wpAny_ite_true (decide_eq_true c1) ?_; wp_walk using wpAny_loadPart' hl))
    exact ⟨_, rfl, h⟩
theorem op_one {X : Cx} : OpR X (binaryOp .Mult) (fun x y H Q => ∃ a xs, x = .ref a ∧ y = .int 1 ∧ SqT X.K H a xs ∧ xs ≠ [] ∧ Q (.ref a) H) := by
  intro pins s σ H x y v u Q I rx ry h
  obtain ⟨l, xs, rfl, rfl, hT, hne, q⟩ := h
  cases rx
  obtain ⟨t, rfl⟩ := ry
  obtain ⟨us, r, ⟨⟨c0, dd, dt, sl⟩, ho, h1, n, h2⟩, hs⟩ := I.tuple hT
  simp only at h1 h2
  subst h1 h2
  exact wpAny_binaryOp_repeat_ref (T := "tuple") (U := "int") (by decide) ⟨_, ho, rfl⟩ (fun s' => typeIs_int s' 1 t) noFill_tuple_mul F.fills_int_mul F.slot_int_rmul repeat_tuple F.slot_int_index.lookup
    (call_meets F.slot_int_rmul (typeIs_int s 1 t) F.entry_int_rmul (F.args_int_rmul_2 _ _) (int_rmul_tuple 1 t l us.toArray n dd sl)
      ⟨ho, rfl, ⟨_, ho, rfl⟩, call_meets F.slot_tuple_mul ⟨_, ho, rfl⟩ F.entry_tuple_mul (F.args_tuple_mul_2 _ _) (tup_once l us.toArray n dd sl t) ⟨ho, ⟨.ref l, H, I, rfl, q⟩⟩⟩)
end Mp
namespace Mp
open PySem L2 PySem.Spec
/-! ### the text is the tree -/
structure Tb where
  fns : List (Str × Nat)
  gls : List (Str × Tv)
  bls : List Str
  kds : List (Str × Kd)
  atts : List (Str × Nat × Nat) := []
  pps : List (Str × Nat × Nat) := []
  mks : List (Str × Nat × Nat × Nat × Nat × List Str) := []
  mkds : List (Str × Nat × Nat × Nat × Nat × List Str × List (Nat × Nat) × List (List Int)) := []
  xcs : List (Str × List Str) := []
  subs : List (Nat × Str × Str × Bool) := []
/-- the classes' facts, of a table: kept apart, so that the first four stand alone -/
structure TbCl (G : Wd) (n : Nat) (cf : Nat → List Tv → M Tv) (T : Tb) : Prop where
  at' : ∀ f c i, (f, c, i) ∈ T.atts → ∃ C, ClG G c C ∧ (G.cls c).2[i]? = some f
  pp : ∀ f c id, (f, c, id) ∈ T.pps → ∃ k C p q fd ps, ClG G c C ∧ PropOf G.K C f p q ∧ FnG G k q fd ps (spF G (cf id)) ∧ k + 1 ≤ n ∧ Binds G.K fd ps []
  mkr : ∀ x c nf id j ks, (x, c, nf, id, j, ks) ∈ T.mks → ∃ k C f fd ps gg, ClG G c C ∧ (G.cls c).1 = x ∧ (G.cls c).2.length = nf ∧ Mk G.K C f ∧ FnG G k f fd ps (spF G (cf id)) ∧ k + 1 ≤ n ∧ KBn G.K fd ps (j + 1) ks gg (fun vs zs => vs ++ zs)
  mkd : ∀ x c nf id j ks pk ds, (x, c, nf, id, j, ks, pk, ds) ∈ T.mkds → ∃ k C f fd ps gg gv, ClG G c C ∧ (G.cls c).1 = x ∧ (G.cls c).2.length = nf ∧ Mk G.K C f ∧ FnG G k f fd ps (spF G (cf id)) ∧ k + 1 ≤ n ∧ KBn G.K fd ps (j + 1) ks gg gv ∧
    ∀ (ν μ : List Addr) (H : Hp) (t : Tv) (v : V) (xs ys : List Tv) (vs zs : List V), Dn G ν μ H t v → Dns G ν μ H xs vs → Dns G ν μ H ys zs → Dns G ν μ H (t :: pickL pk xs (dfT ds) ys) (gv (v :: vs) zs)
  xc : ∀ c x, T.xcs[c]? = some (x, []) → ∃ C, (G.xcs c).1 = x ∧ G.mg x = some (.ref C) ∧ XcOk G.K C
  sb : ∀ c x y b, (c, x, y, b) ∈ T.subs → ∃ C Cx Cy, G.mg (G.xcs c).1 = some (.ref C) ∧ XcOk G.K C ∧ G.mg x = some (.ref Cx) ∧ G.mg y = some (.ref Cy) ∧ PySem.W.exmOne G.K (.ref C) (.ref Cx) = some true ∧ PySem.W.kitOne G.K (.ref C) (.ref Cy) = some b
def kwNames : List Keyword → List Str
  | [] => []
  | ⟨some x, _, _⟩ :: r => x :: kwNames r
  | ⟨none, _, _⟩ :: r => kwNames r
structure TbOk (G : Wd) (n : Nat) (cf : Nat → List Tv → M Tv) (T : Tb) : Prop where
  fn : ∀ x i, (x, i) ∈ T.fns → ∃ k fa fd ps, FnG G k fa fd ps (spF G (cf i)) ∧ k ≤ n ∧ G.mg x = some (.ref fa) ∧ PySem.W.keepIn G.K (.ref fa) = true ∧ Binds G.K fd ps []
  gl : ∀ x t, (x, t) ∈ T.gls → ∃ v u, G.mg x = some u ∧ RelV v u ∧ ∀ ν μ H, Dn G ν μ H t v
  bl : ∀ x, x ∈ T.bls → G.mg x = none
  kd : ∀ x k, (x, k) ∈ T.kds → ∃ kv u, KdV G k kv ∧ RelV kv u ∧ (G.mg x = some u ∨ (G.mg x = none ∧ bootBuiltins x = some u))
  cl : TbCl G n cf T
def glB (sc : Scope) (x : Str) : Bool := (match sc.names.lookup x with
  | some .globalImplicit => true
  | _ => false) && !(x == ("__debug__" : Str)) && decide (x ≠ "__name__")
def visB (sc : Scope) (x : Str) : Bool := (match sc.names.lookup x with
  | some .local => true
  | some .cell => true
  | some .free => true
  | _ => false) && !(x == ("__debug__" : Str)) && !(x == ("__classdict__" : Str))
def baseB : Expr → Bool
  | .Call _ _ _ _ => false
  | _ => true
def tgB (sc : Scope) (fnB : Str → Bool) (x : Str) : Bool := match sc.names.lookup x with
  | some .local => true
  | some .cell => fnB x
  | _ => false
section
variable (T : Tb) (N : List Str)
mutual
def okT (sc : Scope) (fnB : Str → Bool) : Tg → Expr → Bool
  | .v i, .Name x _ => decide (N[i]? = some x) && tgB sc fnB x
  | .tup gs, .Tuple es _ _ => okTs sc fnB gs es
  | _, _ => false
def okTs (sc : Scope) (fnB : Str → Bool) : List Tg → List Expr → Bool
  | [], [] => true
  | g :: gs, e :: es => notStar e && okT sc fnB g e && okTs sc fnB gs es
  | _, _ => false
end
def isNop : Ex → Bool
  | .nop => true
  | _ => false
def ownOf (own : List Nat) : List (Str × Nat) := own.map fun i => (N.getD i "", i)
mutual
def okE (sc : Scope) : Ex → Expr → Bool
  | .var i, .Name x _ => decide (N[i]? = some x) && visB sc x
  | .int i, .Constant (.int j) _ _ => decide (i = j)
  | .str s, .Constant (.str t) _ _ => decide (s = t)
  | .bl b, .Constant (.bool c) _ _ => b == c
  | .non, .Constant .none _ _ => true
  | .gl x t, .Name y _ => decide (x = y) && glB sc x && decide ((x, t) ∈ T.gls)
  | .bin o a b, .BinOp a' p b' _ => decide (p = o.py) && okE sc a a' && okE sc b b'
  | .neg a, .UnaryOp .USub a' _ => okE sc a a'
  | .cmp o a b, .Compare a' [p] [b'] _ => decide (p = o.py) && notSet b' && okE sc a a' && okE sc b b'
  | .chain o q a b c, .Compare a' [p, r] [b', c'] _ => decide (p = o.py) && decide (r = q.py) && notSet c' && okE sc a a' && okE sc b b' && okE sc c c'
  | .isC ng a none, .Compare a' [p] [.Constant .none _ _] _ => decide (p = if ng then .IsNot else .Is) && okE sc a a'
  | .isC ng a (some b), .Compare a' [p] [.Constant (.bool c) _ _] _ => decide (p = if ng then .IsNot else .Is) && (b == c) && okE sc a a'
  | .bop an es, .BoolOp p es' _ => decide (p = if an then .And else .Or) && !es'.isEmpty && okEs sc es es'
  | .nt a, .UnaryOp .Not a' _ => okE sc a a'
  | .ite c a b, .IfExp c' a' b' _ => okE sc c c' && okE sc a a' && okE sc b b'
  | .tup es, .Tuple es' _ _ => okEs sc es es'
  | .fz l, e => okL sc l e
  | .mu l, e => okL sc l e
  | .call i es, .Call (.Name x _) es' [] _ => decide ((x, i) ∈ T.fns) && glB sc x && okEs sc es es'
  | .prim p es, .Call (.Name x _) es' [] _ => decide (x = p.nm) && decide (p ≠ .minD) && !es'.isEmpty && glB sc x && decide (x ∈ T.bls) && okEs sc es es'
  | .isi a k, .Call (.Name x _) [a', .Name y _] [] _ => decide (x = "isinstance") && glB sc x && decide (x ∈ T.bls) && glB sc y && decide ((y, k) ∈ T.kds) && notStar a' && okE sc a a'
  | .ix a i, .Subscript a' i' _ => plainIx i' && okE sc a a' && okE sc i i'
  | .sl a lo hi, .Subscript a' (.Slice lo' hi' none _) _ => okE sc a a' && (match lo' with
      | none => isNop lo
      | some x => okE sc lo x) && (match hi' with
      | none => isNop hi
      | some x => okE sc hi x)
  | .rev a, .Subscript a' (.Slice none none (some (.UnaryOp .USub (.Constant (.int j) _ _) _)) _) _ => decide (j = 1) && okE sc a a'
  | .pop a, .Call (.Attribute a' x p) [] [] q => decide (x = "pop") && baseB a' && (p.endLine == q.line) && okE sc a a'
  | .popAt a i, .Call (.Attribute a' x p) [i'] [] q => decide (x = "pop") && baseB a' && (p.endLine == q.line) && notStar i' && okE sc a a' && okE sc i i'
  | .app a i, .Call (.Attribute a' x p) [i'] [] q => decide (x = "append") && baseB a' && (p.endLine == q.line) && notStar i' && okE sc a a' && okE sc i i'
  | .att c i a, .Attribute a' f _ => decide ((f, c, i) ∈ T.atts) && baseB a' && okE sc a a'
  | .prop c id a, .Attribute a' f _ => decide ((f, c, id) ∈ T.pps) && baseB a' && okE sc a a'
  | .mk c nf id es ks, .Call (.Name x _) es' kws _ => decide ((x, c, nf, id, es.length, kwNames kws) ∈ T.mks) && glB sc x && !es'.isEmpty && okEs sc es es' && okKs sc ks kws
  | .mkd c nf id es ks pk ds, .Call (.Name x _) es' kws _ => decide ((x, c, nf, id, es.length, kwNames kws, pk, ds) ∈ T.mkds) && glB sc x && !es'.isEmpty && okEs sc es es' && okKs sc ks kws
  | .revT a, .Subscript a' (.Slice none none (some (.UnaryOp .USub (.Constant (.int j) _ _) _)) _) _ => decide (j = 1) && okE sc a a'
  | .wall, _ => true
  | .dct0, .Dict [] [] _ => true
  | .minD a d, .Call (.Name x _) [a'] [⟨some y, d', _⟩] _ => decide (x = "min") && decide (y = "default") && glB sc x && decide (x ∈ T.bls) && notStar a' && okE sc a a' && okE sc d d'
  | _, _ => false
def okKs (sc : Scope) : List Ex → List Keyword → Bool
  | [], [] => true
  | e :: es, ⟨some _, x, _⟩ :: r => okE sc e x && okKs sc es r
  | _, _ => false
def okEs (sc : Scope) : List Ex → List Expr → Bool
  | [], [] => true
  | e :: es, x :: xs => notStar x && okE sc e x && okEs sc es xs
  | _, _ => false
def okL (sc : Scope) : Lx → Expr → Bool
  | .disp es, .List es' _ => okEs sc es es'
  | .comp own elt tg it c, .ListComp elt' [⟨tg', it', ifs, k⟩] scope _ => (k == 0) && blkC N sc scope (ownOf N own) && okT N (relS scope sc) (fun x => scope.names.lookup x == some .cell) tg tg' && decide (∀ i ∈ tg.slots, i ∈ own) && notSet it' &&
      okI sc it tg' it' && okE (relS scope sc) elt elt' && (match ifs with
        | [] => isNop c
        | [c'] => okE (relS scope sc) c c'
        | _ => false)
  | .cut a lo hi, .Subscript a' (.Slice lo' hi' none _) _ => okE sc a a' && (match lo' with
      | none => isNop lo
      | some x => okE sc lo x) && (match hi' with
      | none => isNop hi
      | some x => okE sc hi x)
  | .comp2 own own2 elt tg it c tg2 it2 c2, .ListComp elt' gs scope _ => match gs with
    | [⟨tg', it', ifs, k⟩, ⟨tg2', it2', ifs2, k2⟩] => (k == 0) && (k2 == 0) && blkC N sc scope (ownOf N own) && okT N (relS scope sc) (fun x => scope.names.lookup x == some .cell) tg tg' && okT N (relS scope sc) (fun x => scope.names.lookup x == some .cell) tg2 tg2' &&
      decide (∀ i ∈ tg.slots, i ∈ own) && decide (∀ i ∈ tg2.slots, i ∈ own2) && decide (∀ i ∈ own2, i ∈ own) && notSet it' && notSet it2' && okI sc it tg' it' && okI (relS scope sc) it2 tg2' it2' && okE (relS scope sc) elt elt' && (match ifs with
        | [] => isNop c
        | [c'] => okE (relS scope sc) c c'
        | _ => false) && (match ifs2 with
        | [] => isNop c2
        | [c'] => okE (relS scope sc) c2 c'
        | _ => false)
    | _ => false
  | .rngL a, .Call (.Name x _) xs ks _ => match ks with
    | [] => match xs with
      | [b] => match b with
        | .Call (.Name y _) [a'] [] _ => decide (x = "list") && decide (y = "range") && glB sc x && decide (x ∈ T.bls) && glB sc y && decide (y ∈ T.bls) && notStar a' && okE sc a a'
        | _ => false
      | _ => false
    | _ => false
  | .srtS a, .Call (.Name x _) xs ks _ => match ks with
    | [] => match xs with
      | [b] => match b with
        | .Call (.Name y _) [a'] [] _ => decide (x = "sorted") && decide (y = "set") && glB sc x && decide (x ∈ T.bls) && glB sc y && decide (y ∈ T.bls) && notStar a' && okE sc a a'
        | _ => false
      | _ => false
    | _ => false
  | .srt a, .Call (.Name x _) [a'] [] _ => decide (x = "sorted") && glB sc x && decide (x ∈ T.bls) && notStar a' && okE sc a a'
  | .cat a b, .BinOp a' p b' _ => decide (p = .Add) && okE sc a a' && okE sc b b'
  | .ofSeq a, .Call (.Name x _) [a'] [] _ => decide (x = "list") && glB sc x && decide (x ∈ T.bls) && notStar a' && okE sc a a'
  | _, _ => false
def okI (sc : Scope) : Ix → Expr → Expr → Bool
  | .seq a, _, a' => okE sc a a'
  | .rng a, _, .Call (.Name x _) [a'] [] _ => decide (x = "range") && glB sc x && decide (x ∈ T.bls) && notStar a' && okE sc a a'
  | .rng2 a b, _, .Call (.Name x _) [a', b'] [] _ => decide (x = "range") && glB sc x && decide (x ∈ T.bls) && notStar a' && notStar b' && okE sc a a' && okE sc b b'
  | .zip a b, .Tuple _ _ _, .Call (.Name x _) [a', b'] [] _ => decide (x = "zip") && glB sc x && decide (x ∈ T.bls) && notStar a' && notStar b' && okE sc a a' && okE sc b b'
  | .enum a, .Tuple _ _ _, .Call (.Name x _) [a'] [] _ => decide (x = "enumerate") && glB sc x && decide (x ∈ T.bls) && notStar a' && okE sc a a'
  | _, _, _ => false
end
end
section
variable {T : Tb} {G : Wd} {n : Nat} {N : List Str} {sc : Scope} {W : WX} {X : Cx} {cf : Nat → List Tv → M Tv}
theorem gl_of {x : Str} (h : glB sc x = true) (g : Gd G n N sc W X) : Gl X x ∧ (x == ("__debug__" : Str)) = false ∧ x ≠ "__name__" := by
  unfold glB at h
  rw [Bool.and_eq_true, Bool.and_eq_true] at h
  obtain ⟨⟨h1, h2⟩, h3⟩ := h
  refine ⟨?_, by simpa using h2, of_decide_eq_true h3⟩
  show X.env.scope.names.lookup x = some .globalImplicit
  rw [g.sc]
  split at h1
  · assumption
  · cases h1
theorem vis_of {x : Str} (h : visB sc x = true) : Vis sc x ∧ (x == ("__debug__" : Str)) = false ∧ (x == ("__classdict__" : Str)) = false := by
  unfold visB at h
  rw [Bool.and_eq_true, Bool.and_eq_true] at h
  obtain ⟨⟨h1, h2⟩, h3⟩ := h
  refine ⟨?_, by simpa using h2, by simpa using h3⟩
  split at h1
  · exact .inl (by assumption)
  · exact .inr (.inl (by assumption))
  · exact .inr (.inr (by assumption))
  · cases h1
theorem base_of {o : Expr} (h : baseB o = true) (m : Str) (env : PySem.Env) : attributeBase o m env (eval o env) = eval o env := by
  cases o <;> first | rfl | cases h
theorem tg_name {i : Nat} {x : Str} {pos : Pos} {fnB : Str → Bool} (g : Gd G n N sc W X) (fn : ∀ x, fnB x = true → X.fn x = true) (hi : N[i]? = some x) (h : tgB sc fnB x = true) : PG X (.Name x pos) (gT G (.v i)) := by
  have hl : LocB sc x = true := by
    unfold tgB at h
    unfold LocB
    split at h <;> simp_all
  refine s_tgv (i := i) g (fun hy => ?_) hi hl
  unfold tgB at h
  rw [hy] at h
  exact fn x h
mutual
theorem sndT {fnB : Str → Bool} (g : Gd G n N sc W X) (fn : ∀ x, fnB x = true → X.fn x = true) : ∀ (t : Tg) (x : Expr), okT N sc fnB t x = true → PG X x (gT G t)
  | .v i, x, h => by
    cases x with
    | Name y p =>
      simp only [okT, Bool.and_eq_true, decide_eq_true_eq] at h
      exact tg_name g fn h.1 h.2
    | _ => simp [okT] at h
  | .tup gs, x, h => by
    cases x with
    | Tuple es k p =>
      simp only [okT] at h
      obtain ⟨h1, h2, h3⟩ := sndTs g fn gs es h
      exact s_tgt g h1 h2 h3
    | _ => simp [okT] at h
theorem sndTs {fnB : Str → Bool} (g : Gd G n N sc W X) (fn : ∀ x, fnB x = true → X.fn x = true) : ∀ (t : List Tg) (x : List Expr), okTs N sc fnB t x = true → x.all notStar = true ∧ x.length = t.length ∧ PGs X x (gTs G t)
  | [], x, h => by
    cases x with
    | nil => exact ⟨rfl, rfl, s_tgn⟩
    | cons _ _ => simp [okTs] at h
  | t :: r, x, h => by
    cases x with
    | nil => simp [okTs] at h
    | cons e es =>
      simp only [okTs, Bool.and_eq_true] at h
      obtain ⟨⟨h0, h1⟩, h2⟩ := h
      obtain ⟨q1, q2, q3⟩ := sndTs g fn r es h2
      exact ⟨by simp [h0, q1], by rw [List.length_cons, List.length_cons, q2], s_tgc h0 (sndT g fn t e h1) q3⟩
end
end
end Mp
namespace Mp
open PySem L2 PySem.Spec
section
variable {T : Tb} {G : Wd} {n : Nat} {N : List Str} {cf : Nat → List Tv → M Tv}
theorem own_snd (own : List Nat) : (ownOf N own).map (·.2) = own := by
  unfold ownOf
  rw [List.map_map]
  exact List.map_id own
theorem plain2 {sc : Scope} {W : WX} {X : Cx} {x : Expr} {f : Env → M Tv} (g : Gd G n N sc W X) (hp : plainT x = true) (h : PE X x (tE G W f)) : PE X x (tE G W (dflt f).v) ∧ PT X x (tT G W (dflt f).t) := ⟨h, s_truth g hp h⟩
abbrev Good (G : Wd) (cf : Nat → List Tv → M Tv) (W : WX) (X : Cx) (e : Ex) (x : Expr) : Prop := PE X x (tE G W (ev cf e).v) ∧ PT X x (tT G W (ev cf e).t)
theorem and2 {a b : Bool} (h : (a && b) = true) : a = true ∧ b = true := by simpa using h
theorem okE_nop {sc : Scope} {e : Ex} {x : Expr} (h : okE T N sc e x = true) : e ≠ .nop := by
  intro z
  subst z
  cases x <;> simp [okE] at h
theorem end_no {W : WX} {X : Cx} {e : Ex} (h : isNop e = true) : PO X none (tO G W fun env => evEnd e ((ev cf e).v env)) := by
  cases e with
  | nop => exact s_end0
  | _ => cases h
theorem end_yes {W : WX} {X : Cx} {e : Ex} {x : Expr} (hn : e ≠ .nop) (h : PE X x (tE G W (ev cf e).v)) : PO X (some x) (tO G W fun env => evEnd e ((ev cf e).v env)) := by
  have ez : (fun env => evEnd e ((ev cf e).v env)) = endM (ev cf e).v := by
    funext env
    cases e <;> first | exact absurd rfl hn | rfl
  rw [ez]
  exact s_end h
theorem evs_len : ∀ {es : List Ex} {env : Env} {S S' : Sto} {xs : List Tv}, evs cf es env S = .ok xs S' → xs.length = es.length
  | [], env, S, S', xs, h => by
    have h : Rs.ok ([] : List Tv) S = .ok xs S' := h
    cases h
    rfl
  | e :: es, env, S, S', xs, h => by
    have h : ((ev cf e).v env S).bnd (fun x => bnd (evs cf es env) fun xs => ret (x :: xs)) = .ok xs S' := h
    cases e1 : (ev cf e).v env S with
    | ok x S1 =>
      rw [e1] at h
      have h : (evs cf es env S1).bnd (fun xs => ret (x :: xs)) = .ok xs S' := h
      cases e2 : evs cf es env S1 with
      | ok ys S2 =>
        rw [e2] at h
        have h : Rs.ok (x :: ys) S2 = .ok xs S' := h
        cases h
        rw [List.length_cons, List.length_cons, evs_len e2]
      | ex _ _ _ => rw [e2] at h; cases h
      | bad => rw [e2] at h; cases h
    | ex _ _ _ => rw [e1] at h; cases h
    | bad => rw [e1] at h; cases h
theorem kw_len {sc : Scope} : ∀ {es : List Ex} {xs : List Keyword}, okKs T N sc es xs = true → es.length = (kwNames xs).length
  | [], xs, h => by
    cases xs with
    | nil => rfl
    | cons _ _ => exact absurd h (by simp [okKs])
  | e :: es, xs, h => by
    rcases xs with _ | ⟨⟨nm, v, p⟩, xs⟩
    · exact absurd h (by simp [okKs])
    · cases nm with
      | none => exact absurd h (by simp [okKs])
      | some y =>
        obtain ⟨h1, h2⟩ := and2 h
        show es.length + 1 = (kwNames xs).length + 1
        rw [kw_len h2]
theorem kw_all {sc : Scope} {pos : Pos} {env : PySem.Env} : ∀ {es : List Ex} {xs : List Keyword}, okKs T N sc es xs = true →
    (backToKw pos (keywordEach xs env)).all (·.1.isSome) = true ∧ (backToKw pos (keywordEach xs env)).filterMap (·.1) = kwNames xs ∧ (backToKw pos (keywordEach xs env)).any (·.1.isNone) = false
  | [], xs, h => by
    cases xs with
    | nil => exact ⟨rfl, rfl, rfl⟩
    | cons _ _ => exact absurd h (by simp [okKs])
  | e :: es, xs, h => by
    rcases xs with _ | ⟨⟨nm, v, p⟩, xs⟩
    · exact absurd h (by simp [okKs])
    · cases nm with
      | none => exact absurd h (by simp [okKs])
      | some y =>
        obtain ⟨h1, h2⟩ := and2 h
        obtain ⟨k1, k2, k3⟩ := kw_all (pos := pos) (env := env) h2
        refine ⟨?_, ?_, ?_⟩
        · show (true && (backToKw pos (keywordEach xs env)).all (·.1.isSome)) = true
          rw [k1]; rfl
        · show y :: (backToKw pos (keywordEach xs env)).filterMap (·.1) = y :: kwNames xs
          rw [k2]
        · show (false || (backToKw pos (keywordEach xs env)).any (·.1.isNone)) = false
          rw [k3]; rfl
theorem s_knil {W : WX} {X : Cx} : PK X [] (tA G W (evs cf [])) := by
  refine ⟨fun pos pins s σ H Q I h => pk_nil.run pos pins s σ H Q I ?_⟩
  obtain ⟨env, S, ν, μ, r, h⟩ := h
  have h : Fin G (fun c d H' => W c d σ H') (DVs G) ν μ H (.ok ([] : List Tv) S) Q := h
  exact Fin.ok h r.st (by simp only [Dns])
theorem s_kcons {W : WX} {X : Cx} {nm : Option Str} {v : Expr} {p : Pos} {xs : List Keyword} {e : Ex} {es : List Ex} (h1 : PE X v (tE G W (ev cf e).v)) (h2 : PK X xs (tA G W (evs cf es))) : PK X (⟨nm, v, p⟩ :: xs) (tA G W (evs cf (e :: es))) := by
  refine ⟨fun pos pins s σ H Q I h => (pk_cons h1 h2).run pos pins s σ H Q I ?_⟩
  obtain ⟨env, S, ν, μ, r, h⟩ := h
  refine ⟨env, S, ν, μ, r, (Fin.bnd (D := DV G) h).mono fun v H1 ⟨t, S1, ν1, μ1, a1, d1, z⟩ => ?_⟩
  refine ⟨env, S1, ν1, μ1, r.af a1, (Fin.bnd (D := DVs G) z).mono fun vs H2 ⟨ts, S2, ν2, μ2, a2, d2, z⟩ => ?_⟩
  have z : Fin G (fun c d H' => W c d σ H') (DVs G) ν2 μ2 H2 (.ok (t :: ts) S2) Q := z
  refine Fin.ok z a2.st ?_
  simp only [DVs, Dns]
  exact ⟨_, _, rfl, d1.af a2, d2⟩
mutual
theorem sndE (tb : TbOk G n cf T) : ∀ (e : Ex) (x : Expr) (sc : Scope) (W : WX) (X : Cx), Gd G n N sc W X → okE T N sc e x = true → Good G cf W X e x
  | .nop, x, sc, W, X, g, h => by cases x <;> exact absurd h (by simp [okE])
  | .var i, x, sc, W, X, g, h => by
    cases x with
    | Name y p =>
      obtain ⟨h1, h2⟩ := and2 h
      obtain ⟨h3, h4, h5⟩ := vis_of h2
      exact plain2 g rfl (s_var g (of_decide_eq_true h1) h3 h4 h5)
    | _ => exact absurd h (by simp [okE])
  | .int i, x, sc, W, X, g, h => by
    cases x with
    | Constant c k p =>
      cases c with
      | int j =>
        have e : i = j := of_decide_eq_true h
        subst e
        exact plain2 g rfl (s_c pe_int fun _ _ _ => dn_int)
      | _ => exact absurd h (by simp [okE])
    | _ => exact absurd h (by simp [okE])
  | .str s, x, sc, W, X, g, h => by
    cases x with
    | Constant c k p =>
      cases c with
      | str j =>
        have e : s = j := of_decide_eq_true h
        subst e
        exact plain2 g rfl (s_c pe_str fun _ _ _ => dn_str)
      | _ => exact absurd h (by simp [okE])
    | _ => exact absurd h (by simp [okE])
  | .bl b, x, sc, W, X, g, h => by
    cases x with
    | Constant c k p =>
      cases c with
      | bool j =>
        have e : b = j := eq_of_beq h
        subst e
        exact plain2 g rfl (s_c pe_bl fun _ _ _ => dn_bl)
      | _ => exact absurd h (by simp [okE])
    | _ => exact absurd h (by simp [okE])
  | .non, x, sc, W, X, g, h => by
    cases x with
    | Constant c k p =>
      cases c with
      | none => exact plain2 g rfl (s_c pe_non fun _ _ _ => dn_non)
      | _ => exact absurd h (by simp [okE])
    | _ => exact absurd h (by simp [okE])
  | .gl y t, x, sc, W, X, g, h => by
    cases x with
    | Name z p =>
      obtain ⟨h1, h2⟩ := and2 h
      obtain ⟨h3, h4⟩ := and2 h1
      have e : y = z := of_decide_eq_true h3
      subst e
      obtain ⟨k1, k2, k3⟩ := gl_of h4 g
      obtain ⟨v, u, m, r, d⟩ := tb.gl y t (of_decide_eq_true h2)
      exact plain2 g rfl (s_c (pe_glob k1 (by rw [g.iw.mg]; exact m) r k2) d)
    | _ => exact absurd h (by simp [okE])
  | .bin o a b, x, sc, W, X, g, h => by
    cases x with
    | BinOp a' p b' q =>
      obtain ⟨h1, h2⟩ := and2 h
      obtain ⟨h3, h4⟩ := and2 h1
      have e : p = o.py := of_decide_eq_true h3
      subst e
      exact plain2 g rfl (s_bin g op_one (sndE tb a a' sc W X g h4).1 (sndE tb b b' sc W X g h2).1)
    | _ => exact absurd h (by simp [okE])
  | .neg a, x, sc, W, X, g, h => by
    cases x with
    | UnaryOp o a' q =>
      cases o with
      | USub => exact plain2 g rfl (s_neg (sndE tb a a' sc W X g h).1)
      | _ => exact absurd h (by simp [okE])
    | _ => exact absurd h (by simp [okE])
  | .cmp o a b, x, sc, W, X, g, h => by
    cases x with
    | Compare a' ps bs q =>
      rcases ps with _ | ⟨p, _ | ⟨p2, ps⟩⟩ <;> rcases bs with _ | ⟨b', _ | ⟨b2, bs⟩⟩ <;> first | (simp [okE] at h; done) | skip
      obtain ⟨h1, h2⟩ := and2 h
      obtain ⟨h3, h4⟩ := and2 h1
      obtain ⟨h5, h6⟩ := and2 h3
      have e : p = o.py := of_decide_eq_true h5
      subst e
      exact s_cmp g (sndE tb a a' sc W X g h4).1 (sndE tb b b' sc W X g h2).1 h6
    | _ => exact absurd h (by simp [okE])
  | .chain o r a b c, x, sc, W, X, g, h => by
    cases x with
    | Compare a' ps bs q =>
      rcases ps with _ | ⟨p, _ | ⟨p2, _ | ⟨p3, ps⟩⟩⟩ <;> rcases bs with _ | ⟨b', _ | ⟨b2, _ | ⟨b3, bs⟩⟩⟩ <;> first | (simp [okE] at h; done) | skip
      obtain ⟨h1, h2⟩ := and2 h
      obtain ⟨h3, h4⟩ := and2 h1
      obtain ⟨h5, h6⟩ := and2 h3
      obtain ⟨h7, h8⟩ := and2 h5
      obtain ⟨h9, h10⟩ := and2 h7
      have e : p = o.py := of_decide_eq_true h9
      have e2 : p2 = r.py := of_decide_eq_true h10
      subst e e2
      exact s_chain g (sndE tb a a' sc W X g h6).1 (sndE tb b b' sc W X g h4).1 (sndE tb c b2 sc W X g h2).1 h8
    | _ => exact absurd h (by simp [okE])
  | .isC ng a cc, x, sc, W, X, g, h => by
    cases x with
    | Compare a' ps bs q =>
      rcases ps with _ | ⟨p, _ | ⟨p2, ps⟩⟩ <;> rcases bs with _ | ⟨b', _ | ⟨b2, bs⟩⟩ <;> first | (cases cc <;> simp [okE] at h <;> done) | skip
      cases b' with
      | Constant c k p2 =>
        cases cc with
        | none =>
          cases c with
          | none =>
            obtain ⟨h1, h2⟩ := and2 h
            have e : p = if ng then .IsNot else .Is := of_decide_eq_true h1
            subst e
            exact s_isC (cc := none) (sndE tb a a' sc W X g h2).1
          | _ => exact absurd h (by simp [okE])
        | some b =>
          cases c with
          | bool b2 =>
            obtain ⟨h1, h2⟩ := and2 h
            obtain ⟨h3, h4⟩ := and2 h1
            have e : p = if ng then .IsNot else .Is := of_decide_eq_true h3
            have e2 : b = b2 := eq_of_beq h4
            subst e e2
            exact s_isC (cc := some b) (sndE tb a a' sc W X g h2).1
          | _ => exact absurd h (by simp [okE])
      | _ => cases cc <;> exact absurd h (by simp [okE])
    | _ => cases cc <;> exact absurd h (by simp [okE])
  | .bop an es, x, sc, W, X, g, h => by
    cases x with
    | BoolOp p xs q =>
      obtain ⟨h1, h2⟩ := and2 h
      obtain ⟨h3, h4⟩ := and2 h1
      have e : p = if an then .And else .Or := of_decide_eq_true h3
      subst e
      have z := sndB tb an es xs sc W X q g (by intro e; subst e; simp at h4) h2
      exact ⟨z.1, z.2.pt⟩
    | _ => exact absurd h (by simp [okE])
  | .nt a, x, sc, W, X, g, h => by
    cases x with
    | UnaryOp o a' q =>
      cases o with
      | Not =>
        have z := sndE tb a a' sc W X g h
        exact s_nt g z.1 z.2
      | _ => exact absurd h (by simp [okE])
    | _ => exact absurd h (by simp [okE])
  | .ite c a b, x, sc, W, X, g, h => by
    cases x with
    | IfExp c' a' b' q =>
      obtain ⟨h1, h2⟩ := and2 h
      obtain ⟨h3, h4⟩ := and2 h1
      have zc := sndE tb c c' sc W X g h3
      have za := sndE tb a a' sc W X g h4
      have zb := sndE tb b b' sc W X g h2
      exact ⟨s_ite zc.2 za.1 zb.1, s_iteT zc.2 za.2 zb.2⟩
    | _ => exact absurd h (by simp [okE])
  | .tup es, x, sc, W, X, g, h => by
    cases x with
    | Tuple xs k q => exact plain2 g rfl (s_tup (sndEs tb es xs sc W X g h).2)
    | _ => exact absurd h (by simp [okE])
  | .fz l, x, sc, W, X, g, h => by
    have z := sndL tb l x sc W X g (by simpa [okE] using h)
    exact plain2 g z.2 (s_fz z.1)
  | .mu l, x, sc, W, X, g, h => by
    have z := sndL tb l x sc W X g (by simpa [okE] using h)
    exact plain2 g z.2 (s_mu z.1)
  | .call i es, x, sc, W, X, g, h => by
    cases x with
    | Call f xs ks q =>
      cases f with
      | Name y p =>
        cases ks with
        | nil =>
          obtain ⟨h1, h2⟩ := and2 h
          obtain ⟨h3, h4⟩ := and2 h1
          obtain ⟨k1, k2, k3⟩ := gl_of h4 g
          obtain ⟨k, fa, fd, ps, F, hk, hm, hki, hb⟩ := tb.fn y i (of_decide_eq_true h3)
          have z := sndEs tb es xs sc W X g h2
          refine plain2 g rfl ?_
          cases xs with
          | nil =>
            cases es with
            | nil => exact s_call0 g F hk k1 hm hki hb k2
            | cons _ _ => exact absurd h2 (by simp [okEs])
          | cons x1 xs => exact s_call g F hk k1 hm hki hb z.2 z.1 k2
        | cons _ _ => exact absurd h (by simp [okE])
      | _ => exact absurd h (by simp [okE])
    | _ => exact absurd h (by simp [okE])
  | .prim pr es, x, sc, W, X, g, h => by
    cases x with
    | Call f xs ks q =>
      cases f with
      | Name y p =>
        cases ks with
        | nil =>
          obtain ⟨h1, h2⟩ := and2 h
          obtain ⟨h3, h4⟩ := and2 h1
          obtain ⟨h5, h6⟩ := and2 h3
          obtain ⟨h7, h8⟩ := and2 h5
          obtain ⟨h9, h10⟩ := and2 h7
          have e : y = pr.nm := of_decide_eq_true h9
          subst e
          have z := sndEs tb es xs sc W X g h2
          refine plain2 g rfl ?_
          cases xs with
          | nil => simp at h8
          | cons x1 xs => exact s_prim g (of_decide_eq_true h10) (gl_of h6 g).1 (tb.bl _ (of_decide_eq_true h4)) z.2 z.1
        | cons _ _ => exact absurd h (by simp [okE])
      | _ => exact absurd h (by simp [okE])
    | _ => exact absurd h (by simp [okE])
  | .isi a k, x, sc, W, X, g, h => by
    cases x with
    | Call f xs ks q =>
      rcases xs with _ | ⟨a', _ | ⟨b', _ | ⟨c', xs⟩⟩⟩
      · cases f <;> cases ks <;> exact absurd h (by simp [okE])
      · cases f <;> cases ks <;> exact absurd h (by simp [okE])
      · cases f with
        | Name y p =>
          cases ks with
          | nil =>
            cases b' with
            | Name z pz =>
              obtain ⟨h1, h2⟩ := and2 h
              obtain ⟨h3, h4⟩ := and2 h1
              obtain ⟨h5, h6⟩ := and2 h3
              obtain ⟨h7, h8⟩ := and2 h5
              obtain ⟨h9, h10⟩ := and2 h7
              obtain ⟨h11, h12⟩ := and2 h9
              have e : y = "isinstance" := of_decide_eq_true h11
              subst e
              obtain ⟨k1, k2, k3⟩ := gl_of h8 g
              obtain ⟨kv, u, kk, rv, hm⟩ := tb.kd z k (of_decide_eq_true h6)
              have hz : PE X (.Name z pz) (tC kv) := by
                rcases hm with hm | ⟨hm, hb⟩
                · exact pe_glob k1 (by rw [g.iw.mg]; exact hm) rv k2
                · exact pe_bltn k1 (by rw [g.iw.mg]; exact hm) hb rv k3 k2
              exact s_isi g (gl_of h12 g).1 (tb.bl _ (of_decide_eq_true h10)) kk hz h4 rfl (sndE tb a a' sc W X g h2).1
            | _ => exact absurd h (by simp [okE])
          | cons _ _ => exact absurd h (by simp [okE])
        | _ => exact absurd h (by simp [okE])
      · cases f <;> cases ks <;> exact absurd h (by simp [okE])
    | _ => exact absurd h (by simp [okE])
  | .ix a i, x, sc, W, X, g, h => by
    cases x with
    | Subscript a' i' q =>
      obtain ⟨h1, h2⟩ := and2 h
      obtain ⟨h3, h4⟩ := and2 h1
      exact plain2 g rfl (s_ix g (sndE tb a a' sc W X g h4).1 (sndE tb i i' sc W X g h2).1 h3)
    | _ => exact absurd h (by simp [okE])
  | .sl a lo hi, x, sc, W, X, g, h => by
    cases x with
    | Subscript a' i' q =>
      cases i' with
      | Slice lo' hi' st p =>
        cases st with
        | none =>
          obtain ⟨h1, h2⟩ := and2 h
          obtain ⟨h3, h4⟩ := and2 h1
          exact plain2 g rfl (s_sl g (sndE tb a a' sc W X g h3).1 (by
            cases lo' with
            | none => exact end_no (by simpa using h4)
            | some y => exact end_yes (okE_nop h4) (sndE tb lo y sc W X g h4).1) (by
            cases hi' with
            | none => exact end_no (by simpa using h2)
            | some y => exact end_yes (okE_nop h2) (sndE tb hi y sc W X g h2).1))
        | some _ => exact absurd h (by simp [okE])
      | _ => exact absurd h (by simp [okE])
    | _ => exact absurd h (by simp [okE])
  | .rev a, x, sc, W, X, g, h => by
    cases x with
    | Subscript a' i' q =>
      cases i' with
      | Slice lo' hi' st p =>
        rcases lo' with _ | lo' <;> rcases hi' with _ | hi' <;> rcases st with _ | st <;> first | (simp [okE] at h; done) | skip
        cases st with
        | UnaryOp o y p2 =>
          cases o with
          | USub =>
            cases y with
            | Constant c k p3 =>
              cases c with
              | int j =>
                obtain ⟨h1, h2⟩ := and2 h
                have e : j = 1 := of_decide_eq_true h1
                subst e
                exact plain2 g rfl (s_rev g (sndE tb a a' sc W X g h2).1)
              | _ => exact absurd h (by simp [okE])
            | _ => exact absurd h (by simp [okE])
          | _ => exact absurd h (by simp [okE])
        | _ => exact absurd h (by simp [okE])
      | _ => exact absurd h (by simp [okE])
    | _ => exact absurd h (by simp [okE])
  | .pop a, x, sc, W, X, g, h => by
    cases x with
    | Call f xs ks q =>
      cases f with
      | Attribute a' y p =>
        rcases xs with _ | ⟨x1, xs⟩ <;> rcases ks with _ | ⟨k1, ks⟩ <;> first | (simp [okE] at h; done) | skip
        obtain ⟨h1, h2⟩ := and2 h
        obtain ⟨h3, h4⟩ := and2 h1
        obtain ⟨h5, h6⟩ := and2 h3
        have e : y = "pop" := of_decide_eq_true h5
        subst e
        exact plain2 g rfl (s_pop (sndE tb a a' sc W X g h2).1 (base_of h6 _ _) h4)
      | _ => exact absurd h (by simp [okE])
    | _ => exact absurd h (by simp [okE])
  | .popAt a i, x, sc, W, X, g, h => by
    cases x with
    | Call f xs ks q =>
      cases f with
      | Attribute a' y p =>
        rcases xs with _ | ⟨i', _ | ⟨x2, xs⟩⟩ <;> rcases ks with _ | ⟨k1, ks⟩ <;> first | (simp [okE] at h; done) | skip
        obtain ⟨h1, h2⟩ := and2 h
        obtain ⟨h3, h4⟩ := and2 h1
        obtain ⟨h5, h6⟩ := and2 h3
        obtain ⟨h7, h8⟩ := and2 h5
        obtain ⟨h9, h10⟩ := and2 h7
        have e : y = "pop" := of_decide_eq_true h9
        subst e
        exact plain2 g rfl (s_popAt (sndE tb a a' sc W X g h4).1 (sndE tb i i' sc W X g h2).1 h6 (base_of h10 _ _) h8)
      | _ => exact absurd h (by simp [okE])
    | _ => exact absurd h (by simp [okE])
  | .app a i, x, sc, W, X, g, h => by
    cases x with
    | Call f xs ks q =>
      cases f with
      | Attribute a' y p =>
        rcases xs with _ | ⟨i', _ | ⟨x2, xs⟩⟩ <;> rcases ks with _ | ⟨k1, ks⟩ <;> first | (simp [okE] at h; done) | skip
        obtain ⟨h1, h2⟩ := and2 h
        obtain ⟨h3, h4⟩ := and2 h1
        obtain ⟨h5, h6⟩ := and2 h3
        obtain ⟨h7, h8⟩ := and2 h5
        obtain ⟨h9, h10⟩ := and2 h7
        have e : y = "append" := of_decide_eq_true h9
        subst e
        exact plain2 g rfl (s_app (sndE tb a a' sc W X g h4).1 (sndE tb i i' sc W X g h2).1 h6 (base_of h10 _ _) h8)
      | _ => exact absurd h (by simp [okE])
    | _ => exact absurd h (by simp [okE])
  | .att c i a, x, sc, W, X, g, h => by
    cases x with
    | Attribute a' f p =>
      obtain ⟨h1, h2⟩ := and2 h
      obtain ⟨h3, h4⟩ := and2 h1
      obtain ⟨C, cl, hf⟩ := tb.cl.at' f c i (of_decide_eq_true h3)
      exact plain2 g rfl (s_att g cl hf (sndE tb a a' sc W X g h2).1 (base_of h4 f X.env))
    | _ => exact absurd h (by simp [okE])
  | .prop c id a, x, sc, W, X, g, h => by
    cases x with
    | Attribute a' f p =>
      obtain ⟨h1, h2⟩ := and2 h
      obtain ⟨h3, h4⟩ := and2 h1
      obtain ⟨k, C, p', q, fd, ps, cl, hp, F, hr, hb⟩ := tb.cl.pp f c id (of_decide_eq_true h3)
      exact plain2 g rfl (s_prop g cl hp F hr hb (sndE tb a a' sc W X g h2).1 (base_of h4 f X.env))
    | _ => exact absurd h (by simp [okE])
  | .mk c nf id es ks, x, sc, W, X, g, h => by
    cases x with
    | Call fe es' kws p =>
      cases fe with
      | Name y p2 =>
        obtain ⟨h1, h2⟩ := and2 h
        obtain ⟨h3, h4⟩ := and2 h1
        obtain ⟨h5, h6⟩ := and2 h3
        obtain ⟨h7, h8⟩ := and2 h5
        obtain ⟨k1, k2, _⟩ := gl_of h8 g
        obtain ⟨k, C, f, fd, ps, gg, cl, hx, hnf, M, F, hr, hb⟩ := tb.cl.mkr _ _ _ _ _ _ (of_decide_eq_true h7)
        have z := sndEs tb es es' sc W X g h4
        have w := sndKs tb ks kws sc W X g h2
        cases es' with
        | nil => exact absurd h6 (by simp)
        | cons e es' => exact plain2 g rfl (s_mk g cl hnf M F hr hb k1 hx z.2 w.1 z.1 (fun env S xs S' e => evs_len e) (fun env S xs S' e => by rw [evs_len e, kw_len h2]) (kw_all h2).1 (kw_all h2).2.1 (kw_all h2).2.2 k2)
      | _ => exact absurd h (by simp [okE])
    | _ => exact absurd h (by simp [okE])
  | .mkd c nf id es ks pk ds, x, sc, W, X, g, h => by
    cases x with
    | Call fe es' kws p =>
      cases fe with
      | Name y p2 =>
        obtain ⟨h1, h2⟩ := and2 h
        obtain ⟨h3, h4⟩ := and2 h1
        obtain ⟨h5, h6⟩ := and2 h3
        obtain ⟨h7, h8⟩ := and2 h5
        obtain ⟨k1, k2, _⟩ := gl_of h8 g
        obtain ⟨k, C, f, fd, ps, gg, gv, cl, hx, hnf, M, F, hr, hb, hv⟩ := tb.cl.mkd _ _ _ _ _ _ _ _ (of_decide_eq_true h7)
        have z := sndEs tb es es' sc W X g h4
        have w := sndKs tb ks kws sc W X g h2
        cases es' with
        | nil => exact absurd h6 (by simp)
        | cons e es' => exact plain2 g rfl (s_mkG g cl hnf M F hr hb (gt := fun xs ys => pickL pk xs (dfT ds) ys) hv k1 hx z.2 w.1 z.1 (fun env S xs S' e => evs_len e) (fun env S xs S' e => by rw [evs_len e, kw_len h2]) (kw_all h2).1 (kw_all h2).2.1 (kw_all h2).2.2 k2)
      | _ => exact absurd h (by simp [okE])
    | _ => exact absurd h (by simp [okE])
  | .revT a, x, sc, W, X, g, h => by
    cases x with
    | Subscript a' i' q =>
      cases i' with
      | Slice lo hi st p =>
        cases lo with
        | some _ => exact absurd h (by simp [okE])
        | none =>
          cases hi with
          | some _ => exact absurd h (by simp [okE])
          | none =>
            cases st with
            | none => exact absurd h (by simp [okE])
            | some s =>
              cases s with
              | UnaryOp o b p2 =>
                cases o with
                | USub =>
                  cases b with
                  | Constant c k p3 =>
                    cases c with
                    | int j =>
                      obtain ⟨h1, h2⟩ := and2 h
                      have e : j = 1 := of_decide_eq_true h1
                      subst e
                      exact plain2 g rfl (s_revT g (sndE tb a a' sc W X g h2).1)
                    | _ => exact absurd h (by simp [okE])
                  | _ => exact absurd h (by simp [okE])
                | _ => exact absurd h (by simp [okE])
              | _ => exact absurd h (by simp [okE])
      | _ => exact absurd h (by simp [okE])
    | _ => exact absurd h (by simp [okE])
  | .wall, x, sc, W, X, g, h => s_wallE
  | .dct0, x, sc, W, X, g, h => by
    cases x with
    | Dict ks vs p =>
      cases ks with
      | nil =>
        cases vs with
        | nil => exact plain2 g rfl s_dct0
        | cons _ _ => exact absurd h (by simp [okE])
      | cons _ _ => exact absurd h (by simp [okE])
    | _ => exact absurd h (by simp [okE])
  | .minD a d, x, sc, W, X, g, h => by
    cases x with
    | Call f xs ks q =>
      cases f with
      | Name y p =>
        rcases xs with _ | ⟨a', _ | ⟨b', xs⟩⟩
        · exact absurd h (by simp [okE])
        · rcases ks with _ | ⟨⟨nm, d', kp⟩, _ | ⟨k2, ks⟩⟩
          · exact absurd h (by simp [okE])
          · cases nm with
            | none => exact absurd h (by simp [okE])
            | some z =>
              obtain ⟨h1, h2⟩ := and2 h
              obtain ⟨h3, h4⟩ := and2 h1
              obtain ⟨h5, h6⟩ := and2 h3
              obtain ⟨h7, h8⟩ := and2 h5
              obtain ⟨h9, h10⟩ := and2 h7
              obtain ⟨h11, h12⟩ := and2 h9
              have e1 : y = "min" := of_decide_eq_true h11
              have e2 : z = "default" := of_decide_eq_true h12
              subst e1 e2
              exact plain2 g rfl (s_minD g (gl_of h10 g).1 (tb.bl _ (of_decide_eq_true h8)) (sndE tb a a' sc W X g h4).1 (sndE tb d d' sc W X g h2).1 h6)
          · cases nm <;> exact absurd h (by simp [okE])
        · exact absurd h (by simp [okE])
      | _ => exact absurd h (by simp [okE])
    | _ => exact absurd h (by simp [okE])
theorem sndKs (tb : TbOk G n cf T) : ∀ (es : List Ex) (xs : List Keyword) (sc : Scope) (W : WX) (X : Cx), Gd G n N sc W X → okKs T N sc es xs = true → PK X xs (tA G W (evs cf es)) ∧ True
  | [], xs, sc, W, X, g, h => by
    cases xs with
    | nil => exact ⟨s_knil, trivial⟩
    | cons _ _ => exact absurd h (by simp [okKs])
  | e :: es, xs, sc, W, X, g, h => by
    rcases xs with _ | ⟨⟨nm, v, p⟩, xs⟩
    · exact absurd h (by simp [okKs])
    · cases nm with
      | none => exact absurd h (by simp [okKs])
      | some y =>
        obtain ⟨h1, h2⟩ := and2 h
        exact ⟨s_kcons (sndE tb e v sc W X g h1).1 (sndKs tb es xs sc W X g h2).1, trivial⟩
theorem sndEs (tb : TbOk G n cf T) : ∀ (es : List Ex) (xs : List Expr) (sc : Scope) (W : WX) (X : Cx), Gd G n N sc W X → okEs T N sc es xs = true → xs.all notStar = true ∧ PA X xs (tA G W (evs cf es))
  | [], xs, sc, W, X, g, h => by
    cases xs with
    | nil => exact ⟨rfl, s_nil⟩
    | cons _ _ => exact absurd h (by simp [okEs])
  | e :: es, xs, sc, W, X, g, h => by
    cases xs with
    | nil => exact absurd h (by simp [okEs])
    | cons x xs =>
      obtain ⟨h1, h2⟩ := and2 h
      obtain ⟨h3, h4⟩ := and2 h1
      have z := sndEs tb es xs sc W X g h2
      exact ⟨by simp [h3, z.1], s_cons h3 (sndE tb e x sc W X g h4).1 z.2⟩
theorem sndB (tb : TbOk G n cf T) (an : Bool) : ∀ (es : List Ex) (xs : List Expr) (sc : Scope) (W : WX) (X : Cx) (pos : Pos), Gd G n N sc W X → xs ≠ [] → okEs T N sc es xs = true →
    PE X (.BoolOp (if an then .And else .Or) xs pos) (tE G W (evB cf an es)) ∧ PW X (.BoolOp (if an then .And else .Or) xs pos) (tT G W (evT cf an es))
  | [], xs, sc, W, X, pos, g, hn, h => by
    cases xs with
    | nil => exact absurd rfl hn
    | cons _ _ => exact absurd h (by simp [okEs])
  | e :: es, xs, sc, W, X, pos, g, hn, h => by
    cases xs with
    | nil => exact absurd rfl hn
    | cons x xs =>
      obtain ⟨h1, h2⟩ := and2 h
      obtain ⟨h3, h4⟩ := and2 h1
      have z := sndE tb e x sc W X g h4
      cases xs with
      | nil =>
        cases es with
        | nil => exact ⟨s_bop1 z.1, s_bopT1 z.2⟩
        | cons _ _ => exact absurd h2 (by simp [okEs])
      | cons x2 xs =>
        cases es with
        | nil => exact absurd h2 (by simp [okEs])
        | cons e2 es =>
          have w := sndB tb an (e2 :: es) (x2 :: xs) sc W X pos g (by simp) h2
          exact ⟨s_bop g z.1 w.1, s_bopT z.2 w.2⟩
theorem sndL (tb : TbOk G n cf T) : ∀ (l : Lx) (x : Expr) (sc : Scope) (W : WX) (X : Cx), Gd G n N sc W X → okL T N sc l x = true → PE X x (tL G W (evL cf l)) ∧ plainT x = true
  | .disp es, x, sc, W, X, g, h => by
    cases x with
    | List xs q => exact ⟨s_disp (sndEs tb es xs sc W X g h).2, rfl⟩
    | _ => exact Bool.noConfusion (show false = true from h)
  | .comp own elt tg it c, x, sc, W, X, g, h => by
    cases x with
    | ListComp elt' gs scope q =>
      rcases gs with _ | ⟨⟨tg', it', ifs, k⟩, _ | ⟨g2, gs⟩⟩
      · exact Bool.noConfusion (show false = true from h)
      · obtain ⟨h1, h2⟩ := and2 h
        obtain ⟨h3, h4⟩ := and2 h1
        obtain ⟨h5, h6⟩ := and2 h3
        obtain ⟨h7, h8⟩ := and2 h5
        obtain ⟨h9, h10⟩ := and2 h7
        obtain ⟨h11, h12⟩ := and2 h9
        obtain ⟨h13, h14⟩ := and2 h11
        have e : k = 0 := eq_of_beq h13
        subst e
        have l : LcR G n N sc X elt' tg' it' ifs scope (ownOf N own) W tg (evI cf it) (ev cf c).t (ev cf elt).v :=
          { hi := sndI tb it tg' it' sc W X g h6
            ok := h14
            hg := fun Y gy fy => sndT gy (fun x hx => fy x hx) tg tg' h12
            ht := fun Y gy => by
              rcases ifs with _ | ⟨c', _ | ⟨c2, ifs⟩⟩
              · have ec : c = .nop := by
                  cases c <;> first | rfl | exact absurd h2 (by simp [isNop])
                subst ec
                exact s_pts0
              · exact s_pts1 (sndE tb c c' _ _ Y gy h2).2
              · exact absurd h2 (by simp)
            he := fun Y gy => (sndE tb elt elt' _ _ Y gy h4).1
            ho := by rw [own_snd]; exact of_decide_eq_true h10
            ns := h8 }
        have z := s_lc (pos := q) g l
        rw [own_snd] at z
        exact ⟨z, rfl⟩
      · exact Bool.noConfusion (show false = true from h)
    | _ => exact Bool.noConfusion (show false = true from h)
  | .comp2 own own2 elt tg it c tg2 it2 c2, x, sc, W, X, g, h => by
    cases x with
    | ListComp elt' gs scope q =>
      rcases gs with _ | ⟨⟨tg', it', ifs, k⟩, _ | ⟨⟨tg2', it2', ifs2, k2⟩, _ | ⟨g3, gs⟩⟩⟩
      · exact Bool.noConfusion (show false = true from h)
      · exact Bool.noConfusion (show false = true from h)
      · obtain ⟨h, i1⟩ := and2 h
        obtain ⟨h, i2⟩ := and2 h
        obtain ⟨h, i3⟩ := and2 h
        obtain ⟨h, i4⟩ := and2 h
        obtain ⟨h, i5⟩ := and2 h
        obtain ⟨h, i6⟩ := and2 h
        obtain ⟨h, i7⟩ := and2 h
        obtain ⟨h, i8⟩ := and2 h
        obtain ⟨h, i9⟩ := and2 h
        obtain ⟨h, i10⟩ := and2 h
        obtain ⟨h, i11⟩ := and2 h
        obtain ⟨h, i12⟩ := and2 h
        obtain ⟨h, i13⟩ := and2 h
        obtain ⟨i15, i14⟩ := and2 h
        have e : k = 0 := eq_of_beq i15
        have e2 : k2 = 0 := eq_of_beq i14
        subst e e2
        have l : LcR2 G n N sc X elt' tg' it' tg2' it2' ifs ifs2 scope (ownOf N own) own2 W tg tg2 (evI cf it) (evI cf it2) (ev cf c).t (ev cf c2).t (ev cf elt).v :=
          { hi := sndI tb it tg' it' sc W X g i5
            ok := i13
            hg := fun Y gy fy => sndT gy (fun x hx => fy x hx) tg tg' i12
            ht := fun Y gy => by
              rcases ifs with _ | ⟨c', _ | ⟨c3, ifs⟩⟩
              · have ec : c = .nop := by
                  cases c <;> first | rfl | exact absurd i2 (by simp [isNop])
                subst ec
                exact s_pts0
              · exact s_pts1 (sndE tb c c' _ _ Y gy i2).2
              · exact absurd i2 (by simp)
            hi1 := fun Y gy => sndI tb it2 tg2' it2' _ _ Y gy i4
            hg1 := fun Y gy fy => sndT gy (fun x hx => fy x hx) tg2 tg2' i11
            ht1 := fun Y gy => by
              rcases ifs2 with _ | ⟨c', _ | ⟨c3, ifs⟩⟩
              · have ec : c2 = .nop := by
                  cases c2 <;> first | rfl | exact absurd i1 (by simp [isNop])
                subst ec
                exact s_pts0
              · exact s_pts1 (sndE tb c2 c' _ _ Y gy i1).2
              · exact absurd i1 (by simp)
            he := fun Y gy => (sndE tb elt elt' _ _ Y gy i3).1
            ho := by rw [own_snd]; exact of_decide_eq_true i10
            ho1 := of_decide_eq_true i9
            hv := by rw [own_snd]; exact of_decide_eq_true i8
            ns := i7
            ns1 := i6 }
        have z := s_lc2 (pos := q) g l
        rw [own_snd] at z
        exact ⟨z, rfl⟩
      · exact Bool.noConfusion (show false = true from h)
    | _ => exact Bool.noConfusion (show false = true from h)
  | .rngL a, x, sc, W, X, g, h => by
    cases x with
    | Call f xs ks q =>
      rcases xs with _ | ⟨a', _ | ⟨b', xs⟩⟩
      · cases f <;> cases ks <;> exact Bool.noConfusion (show false = true from h)
      · cases f with
        | Name y p =>
          cases ks with
          | nil =>
            cases a' with
            | Call f2 xs2 ks2 q2 =>
              rcases xs2 with _ | ⟨a2, _ | ⟨b2, xs2⟩⟩
              · cases f2 <;> cases ks2 <;> exact Bool.noConfusion (show false = true from h)
              · cases f2 with
                | Name y2 p2 =>
                  cases ks2 with
                  | nil =>
                    obtain ⟨h, i1⟩ := and2 h
                    obtain ⟨h, i2⟩ := and2 h
                    obtain ⟨h, i3⟩ := and2 h
                    obtain ⟨h, i4⟩ := and2 h
                    obtain ⟨h, i5⟩ := and2 h
                    obtain ⟨h, i6⟩ := and2 h
                    obtain ⟨i8, i7⟩ := and2 h
                    have e : y = "list" := of_decide_eq_true i8
                    have e2 : y2 = "range" := of_decide_eq_true i7
                    subst e e2
                    exact ⟨s_rngL g (gl_of i6 g).1 (tb.bl _ (of_decide_eq_true i5)) (gl_of i4 g).1 (tb.bl _ (of_decide_eq_true i3)) i2 (sndE tb a a2 sc W X g i1).1, rfl⟩
                  | cons _ _ => exact Bool.noConfusion (show false = true from h)
                | _ => exact Bool.noConfusion (show false = true from h)
              · cases f2 <;> cases ks2 <;> exact Bool.noConfusion (show false = true from h)
            | _ => exact Bool.noConfusion (show false = true from h)
          | cons _ _ => exact Bool.noConfusion (show false = true from h)
        | _ => exact Bool.noConfusion (show false = true from h)
      · cases f <;> cases ks <;> exact Bool.noConfusion (show false = true from h)
    | _ => exact Bool.noConfusion (show false = true from h)
  | .cat a b, x, sc, W, X, g, h => by
    cases x with
    | BinOp a' p b' q =>
      obtain ⟨h1, h2⟩ := and2 h
      obtain ⟨h3, h4⟩ := and2 h1
      have e : p = .Add := of_decide_eq_true h3
      subst e
      exact ⟨s_catL g (sndE tb a a' sc W X g h4).1 (sndE tb b b' sc W X g h2).1, rfl⟩
    | _ => exact Bool.noConfusion (show false = true from h)
  | .cut a lo hi, x, sc, W, X, g, h => by
    cases x with
    | Subscript a' i' q =>
      cases i' with
      | Slice lo' hi' st p =>
        cases st with
        | none =>
          obtain ⟨h1, h2⟩ := and2 h
          obtain ⟨h3, h4⟩ := and2 h1
          exact ⟨s_cutL g (sndE tb a a' sc W X g h3).1 (by
            cases lo' with
            | none => exact end_no (by simpa using h4)
            | some y => exact end_yes (okE_nop h4) (sndE tb lo y sc W X g h4).1) (by
            cases hi' with
            | none => exact end_no (by simpa using h2)
            | some y => exact end_yes (okE_nop h2) (sndE tb hi y sc W X g h2).1), rfl⟩
        | some _ => exact Bool.noConfusion (show false = true from h)
      | _ => exact Bool.noConfusion (show false = true from h)
    | _ => exact Bool.noConfusion (show false = true from h)
  | .srtS a, x, sc, W, X, g, h => by
    cases x with
    | Call f xs ks q =>
      rcases xs with _ | ⟨a', _ | ⟨b', xs⟩⟩
      · cases f <;> cases ks <;> exact Bool.noConfusion (show false = true from h)
      · cases f with
        | Name y p =>
          cases ks with
          | nil =>
            cases a' with
            | Call f2 xs2 ks2 q2 =>
              rcases xs2 with _ | ⟨a2, _ | ⟨b2, xs2⟩⟩
              · cases f2 <;> cases ks2 <;> exact Bool.noConfusion (show false = true from h)
              · cases f2 with
                | Name y2 p2 =>
                  cases ks2 with
                  | nil =>
                    obtain ⟨h, i1⟩ := and2 h
                    obtain ⟨h, i2⟩ := and2 h
                    obtain ⟨h, i3⟩ := and2 h
                    obtain ⟨h, i4⟩ := and2 h
                    obtain ⟨h, i5⟩ := and2 h
                    obtain ⟨h, i6⟩ := and2 h
                    obtain ⟨i8, i7⟩ := and2 h
                    have e : y = "sorted" := of_decide_eq_true i8
                    have e2 : y2 = "set" := of_decide_eq_true i7
                    subst e e2
                    exact ⟨s_srtS g (gl_of i6 g).1 (tb.bl _ (of_decide_eq_true i5)) (gl_of i4 g).1 (tb.bl _ (of_decide_eq_true i3)) i2 (sndE tb a a2 sc W X g i1).1, rfl⟩
                  | cons _ _ => exact Bool.noConfusion (show false = true from h)
                | _ => exact Bool.noConfusion (show false = true from h)
              · cases f2 <;> cases ks2 <;> exact Bool.noConfusion (show false = true from h)
            | _ => exact Bool.noConfusion (show false = true from h)
          | cons _ _ => exact Bool.noConfusion (show false = true from h)
        | _ => exact Bool.noConfusion (show false = true from h)
      · cases f <;> cases ks <;> exact Bool.noConfusion (show false = true from h)
    | _ => exact Bool.noConfusion (show false = true from h)
  | .srt a, x, sc, W, X, g, h => by
    cases x with
    | Call f xs ks q =>
      rcases xs with _ | ⟨a', _ | ⟨b', xs⟩⟩
      · cases f <;> cases ks <;> exact Bool.noConfusion (show false = true from h)
      · cases f with
        | Name y p =>
          cases ks with
          | nil =>
            obtain ⟨h1, h2⟩ := and2 h
            obtain ⟨h3, h4⟩ := and2 h1
            obtain ⟨h5, h6⟩ := and2 h3
            obtain ⟨h7, h8⟩ := and2 h5
            have e : y = "sorted" := of_decide_eq_true h7
            subst e
            exact ⟨s_srtL g (gl_of h8 g).1 (tb.bl _ (of_decide_eq_true h6)) h4 (sndE tb a a' sc W X g h2).1, rfl⟩
          | cons _ _ => exact Bool.noConfusion (show false = true from h)
        | _ => exact Bool.noConfusion (show false = true from h)
      · cases f <;> cases ks <;> exact Bool.noConfusion (show false = true from h)
    | _ => exact Bool.noConfusion (show false = true from h)
  | .ofSeq a, x, sc, W, X, g, h => by
    cases x with
    | Call f xs ks q =>
      rcases xs with _ | ⟨a', _ | ⟨b', xs⟩⟩
      · cases f <;> cases ks <;> exact Bool.noConfusion (show false = true from h)
      · cases f with
        | Name y p =>
          cases ks with
          | nil =>
            obtain ⟨h1, h2⟩ := and2 h
            obtain ⟨h3, h4⟩ := and2 h1
            obtain ⟨h5, h6⟩ := and2 h3
            obtain ⟨h7, h8⟩ := and2 h5
            have e : y = "list" := of_decide_eq_true h7
            subst e
            exact ⟨s_ofSeq g (gl_of h8 g).1 (tb.bl _ (of_decide_eq_true h6)) h4 (sndE tb a a' sc W X g h2).1, rfl⟩
          | cons _ _ => exact Bool.noConfusion (show false = true from h)
        | _ => exact Bool.noConfusion (show false = true from h)
      · cases f <;> cases ks <;> exact Bool.noConfusion (show false = true from h)
    | _ => exact Bool.noConfusion (show false = true from h)
theorem sndI (tb : TbOk G n cf T) : ∀ (i : Ix) (tg x : Expr) (sc : Scope) (W : WX) (X : Cx), Gd G n N sc W X → okI T N sc i tg x = true → PI X tg x (tI G W (evI cf i))
  | .seq a, tg, x, sc, W, X, g, h => s_iseq g (sndE tb a x sc W X g (by simpa [okI] using h)).1
  | .rng a, tg, x, sc, W, X, g, h => by
    cases x with
    | Call f xs ks q =>
      rcases xs with _ | ⟨a', _ | ⟨b', xs⟩⟩
      · cases f <;> cases ks <;> exact absurd h (by simp [okI])
      · cases f with
        | Name y p =>
          cases ks with
          | nil =>
            obtain ⟨h1, h2⟩ := and2 h
            obtain ⟨h3, h4⟩ := and2 h1
            obtain ⟨h5, h6⟩ := and2 h3
            obtain ⟨h7, h8⟩ := and2 h5
            have e : y = "range" := of_decide_eq_true h7
            subst e
            exact s_irng g (gl_of h8 g).1 (tb.bl _ (of_decide_eq_true h6)) h4 (sndE tb a a' sc W X g h2).1
          | cons _ _ => exact absurd h (by simp [okI])
        | _ => exact absurd h (by simp [okI])
      · cases f <;> cases ks <;> exact absurd h (by simp [okI])
    | _ => exact absurd h (by simp [okI])
  | .rng2 a b, tg, x, sc, W, X, g, h => by
    cases x with
    | Call f xs ks q =>
      rcases xs with _ | ⟨a', _ | ⟨b', _ | ⟨c', xs⟩⟩⟩
      · cases f <;> cases ks <;> exact absurd h (by simp [okI])
      · cases f <;> cases ks <;> exact absurd h (by simp [okI])
      · cases f with
        | Name y p =>
          cases ks with
          | nil =>
            obtain ⟨h1, h2⟩ := and2 h
            obtain ⟨h3, h4⟩ := and2 h1
            obtain ⟨h5, h6⟩ := and2 h3
            obtain ⟨h7, h8⟩ := and2 h5
            obtain ⟨h9, h10⟩ := and2 h7
            obtain ⟨h11, h12⟩ := and2 h9
            have e : y = "range" := of_decide_eq_true h11
            subst e
            exact s_irng2 g (gl_of h12 g).1 (tb.bl _ (of_decide_eq_true h10)) h8 h6 (sndE tb a a' sc W X g h4).1 (sndE tb b b' sc W X g h2).1
          | cons _ _ => exact absurd h (by simp [okI])
        | _ => exact absurd h (by simp [okI])
      · cases f <;> cases ks <;> exact absurd h (by simp [okI])
    | _ => exact absurd h (by simp [okI])
  | .zip a b, tg, x, sc, W, X, g, h => by
    cases tg with
    | Tuple els kk tp =>
      cases x with
      | Call f xs ks q =>
        rcases xs with _ | ⟨a', _ | ⟨b', _ | ⟨c', xs⟩⟩⟩
        · cases f <;> cases ks <;> exact absurd h (by simp [okI])
        · cases f <;> cases ks <;> exact absurd h (by simp [okI])
        · cases f with
          | Name y p =>
            cases ks with
            | nil =>
              obtain ⟨h1, h2⟩ := and2 h
              obtain ⟨h3, h4⟩ := and2 h1
              obtain ⟨h5, h6⟩ := and2 h3
              obtain ⟨h7, h8⟩ := and2 h5
              obtain ⟨h9, h10⟩ := and2 h7
              obtain ⟨h11, h12⟩ := and2 h9
              have e : y = "zip" := of_decide_eq_true h11
              subst e
              exact s_izip g (gl_of h12 g).1 (tb.bl _ (of_decide_eq_true h10)) h8 h6 (sndE tb a a' sc W X g h4).1 (sndE tb b b' sc W X g h2).1
            | cons _ _ => exact absurd h (by simp [okI])
          | _ => exact absurd h (by simp [okI])
        · cases f <;> cases ks <;> exact absurd h (by simp [okI])
      | _ => exact absurd h (by simp [okI])
    | _ => cases x <;> exact absurd h (by simp [okI])
  | .enum a, tg, x, sc, W, X, g, h => by
    cases tg with
    | Tuple els kk tp =>
      cases x with
      | Call f xs ks q =>
        rcases xs with _ | ⟨a', _ | ⟨b', xs⟩⟩
        · cases f <;> cases ks <;> exact absurd h (by simp [okI])
        · cases f with
          | Name y p =>
            cases ks with
            | nil =>
              obtain ⟨h1, h2⟩ := and2 h
              obtain ⟨h3, h4⟩ := and2 h1
              obtain ⟨h5, h6⟩ := and2 h3
              obtain ⟨h7, h8⟩ := and2 h5
              have e : y = "enumerate" := of_decide_eq_true h7
              subst e
              exact s_ienum g (gl_of h8 g).1 (tb.bl _ (of_decide_eq_true h6)) h4 (sndE tb a a' sc W X g h2).1
            | cons _ _ => exact absurd h (by simp [okI])
          | _ => exact absurd h (by simp [okI])
        · cases f <;> cases ks <;> exact absurd h (by simp [okI])
      | _ => exact absurd h (by simp [okI])
    | _ => cases x <;> exact absurd h (by simp [okI])
end
end
end Mp
namespace Mp
open PySem L2 PySem.Spec
/-! ### how stores go -/
def swF (sc : Scope) (ts vs : List Expr) : Option (Option (List Str)) :=
  if !(ts.length == 2 || ts.length == 3) || vs.length != ts.length then some none
  else if (vs.any fun | .Starred .. => true | _ => false) then some none
  else
    let line := (ts.head?.map (·.pos.line)).getD 0
    let names := ts.filterMap fun
      | .Name id pos => if sc.names.lookup id == some .local && pos.line == line then some id else none
      | _ => none
    if names.length != ts.length || names.eraseDups.length != names.length then some none
    else if vs.all (foldedForSure 8) then some none
    else if vs.all (constantsAlone 8) then none
    else some (some names)
theorem blk_fn {env : PySem.Env} (hk : env.scope.kind = .function) : env.blockKind = .function := by
  unfold Env.blockKind
  rw [hk]
  rfl
theorem sw_eq {env : PySem.Env} {ts vs : List Expr} {k k2 : Nat} {p p2 : Pos} {r : Option (List Str)} (hk : env.scope.kind = .function) (h : swF env.scope ts vs = some r) :
    swappedStores [.Tuple ts k p] (.Tuple vs k2 p2) env = pure r := by
  have hb := blk_fn hk
  unfold swF at h
  unfold swappedStores
  simp only [hb]
  split at h
  · rename_i h1
    cases h
    rw [if_pos (by simp only [Bool.or_eq_true] at h1 ⊢; exact .inl h1)]
  · rename_i h1
    rw [if_neg (by
      simp only [Bool.or_eq_true] at h1 ⊢
      intro z
      rcases z with z | z
      · exact h1 z
      · exact absurd z (by decide))]
    split at h
    · rename_i h2
      cases h
      exact if_pos h2
    · rename_i h2
      refine (if_neg h2).trans ?_
      simp only at h
      split at h
      · rename_i h3
        cases h
        exact if_pos h3
      · rename_i h3
        refine (if_neg h3).trans ?_
        split at h
        · rename_i h4
          cases h
          exact if_pos h4
        · rename_i h4
          refine (if_neg h4).trans ?_
          split at h
          · cases h
          · rename_i h5
            cases h
            refine (if_neg h5).trans ?_
            rfl
def swW (sc : Scope) (v t : Expr) : Option Bool := match v with
  | .ListComp _ _ scope _ => match t with
    | .Name y p => some (sc.names.lookup y == some .local && p.line == v.pos.line && !(scope.names.any fun (n, k) => n == y && (k == .local || k == .cell)))
    | _ => some false
  | .SetComp _ _ _ _ => none
  | .DictComp _ _ _ _ _ => none
  | _ => some false
theorem swW_eq {env : PySem.Env} {v t : Expr} {l : Nat} {r : Bool} (hk : env.scope.kind = .function) (h : swW env.scope v t = some r) : swapsWith v (some t) l env = pure r := by
  have hb := blk_fn hk
  cases v with
  | ListComp elt gs scope p =>
    cases t with
    | Name y py =>
      have e : r = (env.scope.names.lookup y == some .local && py.line == (Expr.ListComp elt gs scope p).pos.line && !(scope.names.any fun (n, k) => n == y && (k == .local || k == .cell))) := (Option.some.inj h).symm
      subst e
      unfold swapsWith
      simp only [hb]
      have hr : (ScopeKind.function == ScopeKind.function) = true := by decide
      rw [hr, Bool.true_and]
      rfl
    | _ =>
      have e : r = false := (Option.some.inj h).symm
      subst e
      rfl
  | SetComp _ _ _ _ => cases h
  | DictComp _ _ _ _ _ => cases h
  | _ =>
    have e : r = false := (Option.some.inj h).symm
    subst e
    rfl
def notComp : Expr → Bool
  | .ListComp _ _ _ _ => false
  | .SetComp _ _ _ _ => false
  | .DictComp _ _ _ _ _ => false
  | _ => true
theorem drop_no {v : Expr} {l : Nat} {env : PySem.Env} (h : notComp v = true) : swapsWith v none l env = pure false := by
  cases v <;> first | rfl | cases h
section
variable (T : Tb) (N : List Str)
def plainA (sc : Scope) (t v : Expr) : Bool := decide (swW sc v t = some false) && (match t, v with
  | .Tuple ts _ _, .Tuple vs _ _ => decide (swF sc ts vs = some none)
  | .List _ _, _ => false
  | _, _ => true)
def locB (sc : Scope) (x : Str) : Bool := match sc.names.lookup x with
  | some .local => true
  | _ => false
def parA (sc : Scope) (tg : Tg) (e : Ex) (t v : Expr) : Bool := match tg, e, t, v with
  | .tup [.v i, .v j], .tup es, .Tuple [.Name x _, .Name y _] _ _, .Tuple [a, b] _ _ => decide (swF sc (match t with | .Tuple ts _ _ => ts | _ => []) [a, b] = some (some [x, y])) && decide (N[i]? = some x) && decide (N[j]? = some y) && decide (i ≠ j) && locB sc x && locB sc y && okEs T N sc es [a, b]
  | .tup [.v i, .v j, .v l], .tup es, .Tuple [.Name x _, .Name y _, .Name z _] _ _, .Tuple [a, b, c] _ _ =>
    decide (swF sc (match t with | .Tuple ts _ _ => ts | _ => []) [a, b, c] = some (some [x, y, z])) && decide (N[i]? = some x) && decide (N[j]? = some y) && decide (N[l]? = some z) && decide (i ≠ j) && decide (i ≠ l) && decide (j ≠ l) && locB sc x && locB sc y && locB sc z && okEs T N sc es [a, b, c]
  | _, _, _, _ => false
def lcA (sc : Scope) (tg : Tg) (e : Ex) (t v : Expr) : Bool := match tg, t with
  | .v i, .Name y _ => decide (swW sc v t = some true) && decide (N[i]? = some y) && locB sc y && (match e with
    | .fz (.comp own elt tg it c) => okL T N sc (.comp own elt tg it c) v
    | .mu (.comp own elt tg it c) => okL T N sc (.comp own elt tg it c) v
    | .fz (.comp2 own own2 elt tg it c tg2 it2 c2) => okL T N sc (.comp2 own own2 elt tg it c tg2 it2 c2) v
    | .mu (.comp2 own own2 elt tg it c tg2 it2 c2) => okL T N sc (.comp2 own own2 elt tg it c tg2 it2 c2) v
    | _ => false)
  | _, _ => false
def okAsg (sc : Scope) (tg : Tg) (e : Ex) (t v : Expr) : Bool :=
  if plainA sc t v then notStar t && okT N sc (fun _ => true) tg t && okE T N sc e v else if parA T N sc tg e t v then true else lcA T N sc tg e t v
def okTry (sc : Scope) (i v : Nat) (x y : Str) (sub : List (Nat × Bool)) (s1 s2 : Str) (bo : Bool) (hs : List ExceptHandler) : Bool := match hs with
  | [.ExceptHandler (some (.Name x' _)) (some en) [.Assign [.Name vn _] (.IfExp (.Call (.Name ii _) [.Name en' _, .Name y' _] [] _) (.Constant (.str t1) _ _) (.Constant (.str t2) _ _) _) _] _] =>
      bo && decide (x' = x) && decide (y' = y) && decide (en' = en) && decide (ii = "isinstance") && decide (t1 = s1) && decide (t2 = s2) && decide (N[i]? = some en) && decide (N[v]? = some vn) && locB sc en && locB sc vn && !(en == ("__debug__" : Str)) && !(en == ("__classdict__" : Str)) &&
        glB sc ii && decide (ii ∈ T.bls) && glB sc x && glB sc y && !sub.isEmpty && sub.all fun p => decide ((p.1, x, y, p.2) ∈ T.subs)
  | _ => false
mutual
def okS (sc : Scope) : Sx → Stmt → Bool
  | .asg tg e, .Assign [t] v _ => okAsg T N sc tg e t v
  | .drop e, .Expr v _ => notComp v && okE T N sc e v
  | .setIx a i e, .Assign [.Subscript a' i' p] v _ => decide (swW sc v (.Subscript a' i' p) = some false) && plainIx i' && okE T N sc e v && okE T N sc a a' && okE T N sc i i'
  | .ifS c a b, .If c' a' b' _ => okE T N sc c c' && okSs sc a a' && okSs sc b b'
  | .whileS c a, .While c' a' [] _ => okE T N sc c c' && okSs sc a a'
  | .forS t it a, .For t' it' a' [] _ => okT N sc (fun _ => true) t t' && okI T N sc it t' it' && notSet it' && okSs sc a a'
  | .ret e, .Return (some v) _ => okE T N sc e v
  | .ret .non, .Return none _ => true
  | .brk, .Break _ => true
  | .cont, .Continue _ => true
  | .pass, .Pass _ => true
  | .pass, .Expr (.Constant (.str _) _ _) _ => true
  | .setAtt c i a e, .Assign [.Attribute a' f p] v _ => decide (swW sc v (.Attribute a' f p) = some false) && decide ((f, c, i) ∈ T.atts) && okE T N sc e v && okE T N sc a a'
  | .raiseS, .Raise _ _ _ => true
  | .raiseE c, .Raise v none _ => match v with
    | some (.Call (.Name x _) [] [] _) => decide (T.xcs[c]? = some (x, [])) && glB sc x
    | _ => false
  | .tryE a i v x y sub s1 s2, .Try body hs [] [] _ => okTry T N sc i v x y sub s1 s2 (okSs sc a body) hs
  | _, _ => false
def okSs (sc : Scope) : List Sx → List Stmt → Bool
  | [], [] => true
  | s :: r, st :: sts => okS sc s st && okSs sc r sts
  | _, _ => false
end
end
section
variable {T : Tb} {G : Wd} {n : Nat} {N : List Str} {cf : Nat → List Tv → M Tv}
theorem loc_is {sc : Scope} {x : Str} (h : locB sc x = true) : sc.names.lookup x = some .local := by
  unfold locB at h
  split at h
  · assumption
  · cases h
theorem lcR_of (tb : TbOk G n cf T) {sc : Scope} {W : WX} {X : Cx} {own : List Nat} {elt : Ex} {tg : Tg} {it : Ix} {c : Ex} {v : Expr} (g : Gd G n N sc W X) (h : okL T N sc (.comp own elt tg it c) v = true) :
    ∃ elt' tg' it' ifs scope q, v = .ListComp elt' [⟨tg', it', ifs, 0⟩] scope q ∧ LcR G n N sc X elt' tg' it' ifs scope (ownOf N own) W tg (evI cf it) (ev cf c).t (ev cf elt).v := by
  cases v with
  | ListComp elt' gs scope q =>
    rcases gs with _ | ⟨⟨tg', it', ifs, k⟩, _ | ⟨g2, gs⟩⟩
    · exact Bool.noConfusion (show false = true from h)
    · obtain ⟨h1, h2⟩ := and2 h
      obtain ⟨h3, h4⟩ := and2 h1
      obtain ⟨h5, h6⟩ := and2 h3
      obtain ⟨h7, h8⟩ := and2 h5
      obtain ⟨h9, h10⟩ := and2 h7
      obtain ⟨h11, h12⟩ := and2 h9
      obtain ⟨h13, h14⟩ := and2 h11
      have e : k = 0 := eq_of_beq h13
      subst e
      exact ⟨elt', tg', it', ifs, scope, q, rfl,
        { hi := sndI tb it tg' it' sc W X g h6
          ok := h14
          hg := fun Y gy fy => sndT gy (fun x hx => fy x hx) tg tg' h12
          ht := fun Y gy => by
            rcases ifs with _ | ⟨c', _ | ⟨c2, ifs⟩⟩
            · have ec : c = .nop := by
                cases c <;> first | rfl | exact absurd h2 (by simp [isNop])
              subst ec
              exact s_pts0
            · exact s_pts1 (sndE tb c c' _ _ Y gy h2).2
            · exact absurd h2 (by simp)
          he := fun Y gy => (sndE tb elt elt' _ _ Y gy h4).1
          ho := by rw [own_snd]; exact of_decide_eq_true h10
          ns := h8 }⟩
    · exact Bool.noConfusion (show false = true from h)
  | _ => exact Bool.noConfusion (show false = true from h)
theorem lcR2_of (tb : TbOk G n cf T) {sc : Scope} {W : WX} {X : Cx} {own own2 : List Nat} {elt : Ex} {tg tg2 : Tg} {it it2 : Ix} {c c2 : Ex} {v : Expr} (g : Gd G n N sc W X) (h : okL T N sc (.comp2 own own2 elt tg it c tg2 it2 c2) v = true) :
    ∃ elt' tg' it' ifs tg2' it2' ifs2 scope q, v = .ListComp elt' [⟨tg', it', ifs, 0⟩, ⟨tg2', it2', ifs2, 0⟩] scope q ∧ LcR2 G n N sc X elt' tg' it' tg2' it2' ifs ifs2 scope (ownOf N own) own2 W tg tg2 (evI cf it) (evI cf it2) (ev cf c).t (ev cf c2).t (ev cf elt).v := by
  cases v with
  | ListComp elt' gs scope q =>
    rcases gs with _ | ⟨⟨tg', it', ifs, k⟩, _ | ⟨⟨tg2', it2', ifs2, k2⟩, _ | ⟨g3, gs⟩⟩⟩
    · exact Bool.noConfusion (show false = true from h)
    · exact Bool.noConfusion (show false = true from h)
    · obtain ⟨h, i1⟩ := and2 h
      obtain ⟨h, i2⟩ := and2 h
      obtain ⟨h, i3⟩ := and2 h
      obtain ⟨h, i4⟩ := and2 h
      obtain ⟨h, i5⟩ := and2 h
      obtain ⟨h, i6⟩ := and2 h
      obtain ⟨h, i7⟩ := and2 h
      obtain ⟨h, i8⟩ := and2 h
      obtain ⟨h, i9⟩ := and2 h
      obtain ⟨h, i10⟩ := and2 h
      obtain ⟨h, i11⟩ := and2 h
      obtain ⟨h, i12⟩ := and2 h
      obtain ⟨h, i13⟩ := and2 h
      obtain ⟨i15, i14⟩ := and2 h
      have e : k = 0 := eq_of_beq i15
      have e2 : k2 = 0 := eq_of_beq i14
      subst e e2
      exact ⟨elt', tg', it', ifs, tg2', it2', ifs2, scope, q, rfl,
        { hi := sndI tb it tg' it' sc W X g i5
          ok := i13
          hg := fun Y gy fy => sndT gy (fun x hx => fy x hx) tg tg' i12
          ht := fun Y gy => by
            rcases ifs with _ | ⟨c', _ | ⟨c3, ifs⟩⟩
            · have ec : c = .nop := by
                cases c <;> first | rfl | exact absurd i2 (by simp [isNop])
              subst ec
              exact s_pts0
            · exact s_pts1 (sndE tb c c' _ _ Y gy i2).2
            · exact absurd i2 (by simp)
          hi1 := fun Y gy => sndI tb it2 tg2' it2' _ _ Y gy i4
          hg1 := fun Y gy fy => sndT gy (fun x hx => fy x hx) tg2 tg2' i11
          ht1 := fun Y gy => by
            rcases ifs2 with _ | ⟨c', _ | ⟨c3, ifs⟩⟩
            · have ec : c2 = .nop := by
                cases c2 <;> first | rfl | exact absurd i1 (by simp [isNop])
              subst ec
              exact s_pts0
            · exact s_pts1 (sndE tb c2 c' _ _ Y gy i1).2
            · exact absurd i1 (by simp)
          he := fun Y gy => (sndE tb elt elt' _ _ Y gy i3).1
          ho := by rw [own_snd]; exact of_decide_eq_true i10
          ho1 := of_decide_eq_true i9
          hv := by rw [own_snd]; exact of_decide_eq_true i8
          ns := i7
          ns1 := i6 }⟩
    · exact Bool.noConfusion (show false = true from h)
  | _ => exact Bool.noConfusion (show false = true from h)
theorem sndAsg (tb : TbOk G n cf T) {sc : Scope} {W : WX} {X : Cx} {tg : Tg} {e : Ex} {t v : Expr} {pos : Pos} (g : Gd G n N sc W X) (hf : ∀ x, X.fn x = true) (hk : sc.kind = .function) (h : okAsg T N sc tg e t v = true) :
    PS X (.Assign [t] v pos) (tS G W (asgM tg (ev cf e).v)) := by
  have hk' : X.env.scope.kind = .function := by rw [g.sc]; exact hk
  unfold okAsg at h
  split at h
  · rename_i hp
    obtain ⟨h1, h2⟩ := and2 h
    obtain ⟨h3, h4⟩ := and2 h1
    unfold plainA at hp
    obtain ⟨p1, p2⟩ := and2 hp
    refine s_asg (sndE tb e v sc W X g h2).1 (sndT g (fun x _ => hf x) tg t h4) (swW_eq hk' (by rw [g.sc]; exact of_decide_eq_true p1)) ?_ h3
    cases t with
    | Tuple ts k p =>
      cases v with
      | Tuple vs k2 q => exact sw_eq hk' (by rw [g.sc]; exact of_decide_eq_true p2)
      | _ => rfl
    | List ts p => cases v <;> exact absurd p2 (by simp)
    | _ => cases v <;> rfl
  · split at h
    · rename_i hp
      unfold parA at hp
      split at hp
      · rename_i i j es x px y py kt pt a b k2 pt2 _
        obtain ⟨h1, h2⟩ := and2 hp
        obtain ⟨h3, h4⟩ := and2 h1
        obtain ⟨h5, h6⟩ := and2 h3
        obtain ⟨h7, h8⟩ := and2 h5
        obtain ⟨h9, h10⟩ := and2 h7
        obtain ⟨h11, h12⟩ := and2 h9
        exact s_par2 g (of_decide_eq_true h12) (of_decide_eq_true h10) (of_decide_eq_true h8) (loc_is h6) (loc_is h4) (sndEs tb es [a, b] sc W X g h2).2 (sw_eq hk' (by rw [g.sc]; exact of_decide_eq_true h11))
      · rename_i i j l es x px y py z pz kt pt a b c k2 pt2 _
        obtain ⟨h1, h2⟩ := and2 hp
        obtain ⟨h3, h4⟩ := and2 h1
        obtain ⟨h5, h6⟩ := and2 h3
        obtain ⟨h7, h8⟩ := and2 h5
        obtain ⟨h9, h10⟩ := and2 h7
        obtain ⟨h11, h12⟩ := and2 h9
        obtain ⟨h13, h14⟩ := and2 h11
        obtain ⟨h15, h16⟩ := and2 h13
        obtain ⟨h17, h18⟩ := and2 h15
        obtain ⟨h19, h20⟩ := and2 h17
        exact s_par3 g (of_decide_eq_true h20) (of_decide_eq_true h18) (of_decide_eq_true h16) (of_decide_eq_true h14) (of_decide_eq_true h12) (of_decide_eq_true h10) (loc_is h8) (loc_is h6) (loc_is h4) (sndEs tb es [a, b, c] sc W X g h2).2 (sw_eq hk' (by rw [g.sc]; exact of_decide_eq_true h19))
      · cases hp
    · unfold lcA at h
      split at h
      · rename_i i y py _ _
        obtain ⟨h1, h2⟩ := and2 h
        obtain ⟨h3, h4⟩ := and2 h1
        obtain ⟨h5, h6⟩ := and2 h3
        have sw : swapsWith v (some (.Name y py)) pos.line X.env = pure true := swW_eq hk' (by rw [g.sc]; exact of_decide_eq_true h5)
        split at h2
        · rename_i own elt tg2 it c
          obtain ⟨elt', tg', it', ifs, scope, q, rfl, l⟩ := lcR_of tb g h2
          refine s_asgLc g l (of_decide_eq_true h6) (loc_is h4) sw fun σ H Q z => ?_
          rw [own_snd]
          exact fz_imp z
        · rename_i own elt tg2 it c
          obtain ⟨elt', tg', it', ifs, scope, q, rfl, l⟩ := lcR_of tb g h2
          refine s_asgLc g l (of_decide_eq_true h6) (loc_is h4) sw fun σ H Q z => ?_
          rw [own_snd]
          exact mu_imp z
        · rename_i own own2 elt tg1 it c tg2 it2 c2
          obtain ⟨elt', tg', it', ifs, tg2', it2', ifs2, scope, q, rfl, l⟩ := lcR2_of tb g h2
          refine s_asgLc2 g l (of_decide_eq_true h6) (loc_is h4) sw fun σ H Q z => ?_
          rw [own_snd]
          exact fz_imp z
        · rename_i own own2 elt tg1 it c tg2 it2 c2
          obtain ⟨elt', tg', it', ifs, tg2', it2', ifs2, scope, q, rfl, l⟩ := lcR2_of tb g h2
          refine s_asgLc2 g l (of_decide_eq_true h6) (loc_is h4) sw fun σ H Q z => ?_
          rw [own_snd]
          exact mu_imp z
        · cases h2
      · cases h
mutual
theorem sndS (tb : TbOk G n cf T) (m : Nat) : ∀ (s : Sx) (st : Stmt) (sc : Scope) (W : WX) (X : Cx), Gd G n N sc W X → (∀ x, X.fn x = true) → sc.kind = .function → PassesOwn (model X.prog X.w) X.A X.env X.xe → (X.stack = X.env :: X.outer ∧ X.env.frame = some X.env.locals) → okS T N sc s st = true → PS X st (tS G W (ex cf m s))
  | .asg tg e, st, sc, W, X, g, hf, hk, hp, hz, h => by
    cases st with
    | Assign ts v p =>
      rcases ts with _ | ⟨t, _ | ⟨t2, ts⟩⟩
      · exact Bool.noConfusion (show false = true from h)
      · exact sndAsg tb g hf hk h
      · exact Bool.noConfusion (show false = true from h)
    | _ => exact Bool.noConfusion (show false = true from h)
  | .drop e, st, sc, W, X, g, hf, hk, hp, hz, h => by
    cases st with
    | Expr v p =>
      obtain ⟨h1, h2⟩ := and2 h
      exact s_drop (sndE tb e v sc W X g h2).1 (drop_no h1)
    | _ => exact Bool.noConfusion (show false = true from h)
  | .setIx a i e, st, sc, W, X, g, hf, hk, hp, hz, h => by
    cases st with
    | Assign ts v p =>
      rcases ts with _ | ⟨t, _ | ⟨t2, ts⟩⟩
      · exact Bool.noConfusion (show false = true from h)
      · cases t with
        | Subscript a' i' p2 =>
          obtain ⟨h1, h2⟩ := and2 h
          obtain ⟨h3, h4⟩ := and2 h1
          obtain ⟨h5, h6⟩ := and2 h3
          obtain ⟨h7, h8⟩ := and2 h5
          have hk' : X.env.scope.kind = .function := by rw [g.sc]; exact hk
          exact s_setIx (sndE tb a a' sc W X g h4).1 (sndE tb i i' sc W X g h2).1 (sndE tb e v sc W X g h6).1 h8 (swW_eq (v := v) (t := .Subscript a' i' p2) (l := p.line) (r := false) hk' (by rw [g.sc]; exact of_decide_eq_true h7)) (by cases v <;> rfl)
        | _ => exact Bool.noConfusion (show false = true from h)
      · cases t <;> exact Bool.noConfusion (show false = true from h)
    | _ => exact Bool.noConfusion (show false = true from h)
  | .ifS c a b, st, sc, W, X, g, hf, hk, hp, hz, h => by
    cases st with
    | If c' a' b' p =>
      obtain ⟨h1, h2⟩ := and2 h
      obtain ⟨h3, h4⟩ := and2 h1
      exact s_if (sndE tb c c' sc W X g h3).2 (sndSs tb m a a' sc W X g hf hk hp hz h4) (sndSs tb m b b' sc W X g hf hk hp hz h2)
    | _ => exact Bool.noConfusion (show false = true from h)
  | .whileS c a, st, sc, W, X, g, hf, hk, hp, hz, h => by
    cases st with
    | While c' a' b' p =>
      cases b' with
      | nil =>
        obtain ⟨h1, h2⟩ := and2 h
        exact s_while hp (sndE tb c c' sc W X g h1).2 (sndSs tb m a a' sc W X g hf hk hp hz h2) m
      | cons _ _ => exact Bool.noConfusion (show false = true from h)
    | _ => exact Bool.noConfusion (show false = true from h)
  | .forS t it a, st, sc, W, X, g, hf, hk, hp, hz, h => by
    cases st with
    | For t' it' a' b' p =>
      cases b' with
      | nil =>
        obtain ⟨h1, h2⟩ := and2 h
        obtain ⟨h3, h4⟩ := and2 h1
        obtain ⟨h5, h6⟩ := and2 h3
        exact s_for g hp (sndI tb it t' it' sc W X g h6) (sndT g (fun x _ => hf x) t t' h5) (sndSs tb m a a' sc W X g hf hk hp hz h2) h4
      | cons _ _ => exact Bool.noConfusion (show false = true from h)
    | _ => exact Bool.noConfusion (show false = true from h)
  | .ret e, st, sc, W, X, g, hf, hk, hp, hz, h => by
    cases st with
    | Return v p =>
      cases v with
      | some v =>
        have h' : okE T N sc e v = true := by
          cases e <;> exact h
        exact s_ret (sndE tb e v sc W X g h').1
      | none =>
        cases e with
        | non => exact s_retN
        | _ => exact Bool.noConfusion (show false = true from h)
    | _ => cases e <;> exact Bool.noConfusion (show false = true from h)
  | .brk, st, sc, W, X, g, hf, hk, hp, hz, h => by
    cases st with
    | Break p => exact s_break
    | _ => exact Bool.noConfusion (show false = true from h)
  | .cont, st, sc, W, X, g, hf, hk, hp, hz, h => by
    cases st with
    | Continue p => exact s_cont
    | _ => exact Bool.noConfusion (show false = true from h)
  | .pass, st, sc, W, X, g, hf, hk, hp, hz, h => by
    cases st with
    | Pass p => exact s_pass
    | Expr v p =>
      cases v with
      | Constant c k p2 =>
        cases c with
        | str x => exact s_doc
        | _ => exact Bool.noConfusion (show false = true from h)
      | _ => exact Bool.noConfusion (show false = true from h)
    | _ => exact Bool.noConfusion (show false = true from h)
  | .setAtt c i a e, st, sc, W, X, g, hf, hk, hp, hz, h => by
    cases st with
    | Assign ts v p =>
      rcases ts with _ | ⟨t, _ | ⟨t2, ts⟩⟩
      · exact Bool.noConfusion (show false = true from h)
      · cases t with
        | Attribute a' f p2 =>
          obtain ⟨h1, h2⟩ := and2 h
          obtain ⟨h3, h4⟩ := and2 h1
          obtain ⟨h5, h6⟩ := and2 h3
          have hk' : X.env.scope.kind = .function := by rw [g.sc]; exact hk
          obtain ⟨C, cl, hfi⟩ := tb.cl.at' f c i (of_decide_eq_true h6)
          exact s_setAtt g cl hfi (sndE tb a a' sc W X g h2).1 (sndE tb e v sc W X g h4).1 (swW_eq (v := v) (t := .Attribute a' f p2) (l := p.line) (r := false) hk' (by rw [g.sc]; exact of_decide_eq_true h5))
        | _ => exact Bool.noConfusion (show false = true from h)
      · cases t <;> exact Bool.noConfusion (show false = true from h)
    | _ => exact Bool.noConfusion (show false = true from h)
  | .raiseS, st, sc, W, X, g, hf, hk, hp, hz, h => s_wall fun env S => rfl
  | .raiseE c, st, sc, W, X, g, hf, hk, hp, hz, h => by
    cases st with
    | Raise v cs p =>
      cases cs with
      | none =>
        cases v with
        | none => exact Bool.noConfusion (show false = true from h)
        | some v =>
          cases v with
          | Call fe es ks p2 =>
            cases fe with
            | Name x p3 =>
              cases es with
              | nil =>
                cases ks with
                | nil =>
                  obtain ⟨h1, h2⟩ := and2 h
                  obtain ⟨k1, k2, _⟩ := gl_of h2 g
                  obtain ⟨C, hx, hm, q⟩ := tb.cl.xc c x (of_decide_eq_true h1)
                  exact s_raiseE g q hx hm k1 k2
                | cons _ _ => exact Bool.noConfusion (show false = true from h)
              | cons _ _ => exact Bool.noConfusion (show false = true from h)
            | _ => exact Bool.noConfusion (show false = true from h)
          | _ => exact Bool.noConfusion (show false = true from h)
      | some _ => exact Bool.noConfusion (show false = true from h)
    | _ => exact Bool.noConfusion (show false = true from h)
  | .tryE a i v x y sub s1 s2, st, sc, W, X, g, hf, hk, hp, hz, h => by
    cases st with
    | Try body hs o f p =>
      rcases o with _ | ⟨o1, o⟩
      · rcases f with _ | ⟨f1, f⟩
        · have h : okTry T N sc i v x y sub s1 s2 (okSs T N sc a body) hs = true := h
          unfold okTry at h
          split at h
          · rename_i x' xp en vn vp ii ip en' ep y' yp np t1 k1 q1 t2 k2 q2 ifp ap hp' _
            obtain ⟨h, i1⟩ := and2 h
            obtain ⟨h, i2⟩ := and2 h
            obtain ⟨h, i3⟩ := and2 h
            obtain ⟨h, i4⟩ := and2 h
            obtain ⟨h, i5⟩ := and2 h
            obtain ⟨h, i6⟩ := and2 h
            obtain ⟨h, i7⟩ := and2 h
            obtain ⟨h, i8⟩ := and2 h
            obtain ⟨h, i9⟩ := and2 h
            obtain ⟨h, i10⟩ := and2 h
            obtain ⟨h, i11⟩ := and2 h
            obtain ⟨h, i12⟩ := and2 h
            obtain ⟨h, i13⟩ := and2 h
            obtain ⟨h, i14⟩ := and2 h
            obtain ⟨h, i15⟩ := and2 h
            obtain ⟨h, i16⟩ := and2 h
            obtain ⟨h, i17⟩ := and2 h
            obtain ⟨i19, i18⟩ := and2 h
            have e1 : x' = x := of_decide_eq_true i18
            have e2 : y' = y := of_decide_eq_true i17
            have e3 : en' = en := of_decide_eq_true i16
            have e4 : ii = "isinstance" := of_decide_eq_true i15
            have e5 : t1 = s1 := of_decide_eq_true i14
            have e6 : t2 = s2 := of_decide_eq_true i13
            subst e1 e2 e3 e4 e5 e6
            have all : ∀ c b, (c, b) ∈ sub → (c, x', y', b) ∈ T.subs := fun c b hm => of_decide_eq_true (List.all_eq_true.mp i1 (c, b) hm)
            have some1 : ∃ c b, (c, b) ∈ sub := by
              cases sub with
              | nil => cases i2
              | cons p r => exact ⟨p.1, p.2, List.mem_cons_self⟩
            obtain ⟨c0, b0, m0⟩ := some1
            obtain ⟨C0, Cx, Cy, _, _, mx, my, _, _⟩ := tb.cl.sb _ _ _ _ (all c0 b0 m0)
            obtain ⟨gx, dx, _⟩ := gl_of i4 g
            obtain ⟨gy, dy, _⟩ := gl_of i3 g
            exact s_tryE g hz.1 hz.2 (of_decide_eq_true i12) (of_decide_eq_true i11) (loc_is i10) (loc_is i9) (by simpa using i8) (by simpa using i7) (gl_of i6 g).1 (tb.bl _ (of_decide_eq_true i5)) gy my dy gx mx dx (fun c b hm => by
              obtain ⟨C, Cx2, Cy2, q1, q2, q3, q4, q5, q6⟩ := tb.cl.sb _ _ _ _ (all c b hm)
              rw [mx] at q3
              rw [my] at q4
              cases q3
              cases q4
              exact ⟨C, q1, q2, q5, q6⟩) fun W' Y gY fY sY frY po => sndSs tb m a body sc W' Y gY (fun x => by rw [fY]; exact hf x) hk po ⟨sY, frY⟩ i19
          · cases h
        · exact Bool.noConfusion (show false = true from h)
      · exact Bool.noConfusion (show false = true from h)
    | _ => exact Bool.noConfusion (show false = true from h)
theorem sndSs (tb : TbOk G n cf T) (m : Nat) : ∀ (s : List Sx) (st : List Stmt) (sc : Scope) (W : WX) (X : Cx), Gd G n N sc W X → (∀ x, X.fn x = true) → sc.kind = .function → PassesOwn (model X.prog X.w) X.A X.env X.xe → (X.stack = X.env :: X.outer ∧ X.env.frame = some X.env.locals) → okSs T N sc s st = true → PSs X st (tS G W (exs cf m s))
  | [], st, sc, W, X, g, hf, hk, hp, hz, h => by
    cases st with
    | nil => exact s_snil
    | cons _ _ => exact Bool.noConfusion (show false = true from h)
  | s :: r, st, sc, W, X, g, hf, hk, hp, hz, h => by
    cases st with
    | nil => exact Bool.noConfusion (show false = true from h)
    | cons t ts =>
      obtain ⟨h1, h2⟩ := and2 h
      exact s_scons (sndS tb m s t sc W X g hf hk hp hz h1) (sndSs tb m r ts sc W X g hf hk hp hz h2)
end
end
end Mp
namespace Mp
open PySem L2 PySem.Spec PyProof.Rows
/-! ### a def keeps its promise -/
section
variable {G : Wd} {ν μ ν' μ' ν0 : List Addr} {H H' H0 : Hp} {S S' : Sto}
theorem en_start {N : List Str} {ts : List Tv} {vs : List V} {n k : Nat} (d : Dns G ν μ H ts vs) (h1 : ts.length = k) (h2 : N.length = n) : EnR G ν μ H (ts.map some ++ List.replicate (n - k) none) (L2.start N vs) := by
  have hl := d.length
  subst h1 h2
  refine ⟨by simp [L2.start, hl], fun i t e => ?_⟩
  by_cases hi : i < ts.length
  · rw [List.getElem?_append_left (by simpa using hi), List.getElem?_map] at e
    obtain ⟨t', e1, e2⟩ := Option.map_eq_some_iff.mp e
    cases e2
    obtain ⟨v, e3, d3⟩ := d.get e1
    refine ⟨v, ?_, d3⟩
    unfold L2.start
    rw [List.getElem?_append_left (by simpa using (by omega)), List.getElem?_map, e3]
    rfl
  · rw [List.getElem?_append_right (by simpa using (by omega))] at e
    obtain ⟨_, q⟩ := List.getElem?_eq_some_iff.mp e
    simp at q
end
/-- how a def is reached: by a global's name; as a property of a class; as the init of a class, with j values behind self and these keywords -/
structure Pat where
  j : Nat
  ks : List Str
  ms : List (Str × List Int)
  pk : List (Nat × Nat)
inductive Rk where
  | fn
  | get (c : Nat) (f : Str)
  | init (c j : Nat) (ks : List Str)
  | initD (c : Nat) (pd : List (List Int)) (kd : List (Str × List Int)) (ws : List Pat)
structure En where
  x : Str
  i : Nat
  N : List Str
  ps : List Str
  d : Df
  st : Stmt
  q : Str := x
  rk : Rk := .fn
/-- the functions, the last one first -/
def tab : List En → Nat → List Tv → M Tv
  | [], _ => fun _ => bad
  | e :: r, i => if i = e.i then runD (tab r) e.d else tab r i
def okEn (T : Tb) (e : En) : Bool := okSs T e.N (L2.defScope e.st) e.d.body (L2.defBody e.st) && decide (e.ps.length = e.d.k) && decide (e.N.length = e.d.n) && decide (e.N.Nodup) && decide (e.N.take e.ps.length = e.ps) &&
  (match (L2.defScope e.st).kind with | .function => true | _ => false) && !(L2.defScope e.st).isCoroutine && !(L2.defScope e.st).isGenerator && (e.ps.all fun x => tgB (L2.defScope e.st) (fun _ => true) x) && (L2.defScope e.st).names.all (fun y => decide (y.2 ≠ .free))
def En.fns (e : En) : List (Str × Nat) := match e.rk with
  | .fn => [(e.x, e.i)]
  | _ => []
def En.pps (e : En) : List (Str × Nat × Nat) := match e.rk with
  | .get c f => [(f, c, e.i)]
  | _ => []
def En.mks (cls : List (Str × List Str)) (e : En) : List (Str × Nat × Nat × Nat × Nat × List Str) := match e.rk with
  | .init c j ks => match cls[c]? with
    | some p => [(p.1, c, p.2.length, e.i, j, ks)]
    | none => []
  | _ => []
def En.mkds (cls : List (Str × List Str)) (e : En) : List (Str × Nat × Nat × Nat × Nat × List Str × List (Nat × Nat) × List (List Int)) := match e.rk with
  | .initD c pd _ ws => match cls[c]? with
    | some p => ws.map fun w => (p.1, c, p.2.length, e.i, w.j, w.ks, w.pk, pd ++ w.ms.map (·.2))
    | none => []
  | _ => []
def clsOf (cls : List (Str × List Str)) (c : Nat) : Str × List Str := cls.getD c ("", [])
/-- the table of these defs -/
def tbOf (T : Tb) (cls : List (Str × List Str)) (r : List En) : Tb := { T with fns := r.flatMap En.fns, pps := r.flatMap En.pps, mks := r.flatMap (En.mks cls), mkds := r.flatMap (En.mkds cls) }
def okAll (T : Tb) (cls : List (Str × List Str)) : List En → Bool
  | [] => true
  | e :: r => okEn (tbOf T cls r) e && decide (e.i ∉ r.map (·.i)) && okAll T cls r
theorem def_ok {G : Wd} {n : Nat} {cf : Nat → List Tv → M Tv} {T : Tb} {e : En} {f : Addr} {fd : FuncData} {dvs : List V} {kws : List (Str × V)} (tb : TbOk G n cf T) (hs : ∃ o, G.base.get? sysModules = some o) (h : okEn T e = true)
    (F : FunD G.K e.x e.q (L2.defArgs e.st) (L2.defBody e.st) (L2.defScope e.st) dvs kws f fd) : FnG G (n + 1) f fd e.ps (spF G (runD cf e.d)) := by
  obtain ⟨h, k10⟩ := and2 h
  obtain ⟨h, k9⟩ := and2 h
  obtain ⟨h, k8⟩ := and2 h
  obtain ⟨h, k7⟩ := and2 h
  obtain ⟨h, k6⟩ := and2 h
  obtain ⟨h, k5⟩ := and2 h
  obtain ⟨h, k4⟩ := and2 h
  obtain ⟨h, k3⟩ := and2 h
  obtain ⟨k1, k2⟩ := and2 h
  have hkind : (L2.defScope e.st).kind = .function := by
    split at k6
    · assumption
    · cases k6
  have hnd : e.N.Nodup := of_decide_eq_true k4
  have par : ∀ x ∈ e.ps, (L2.defScope e.st).names.lookup x = some .local ∨ (L2.defScope e.st).names.lookup x = some .cell := fun x hx => by
    have z := List.all_eq_true.mp k9 x hx
    unfold tgB at z
    split at z
    · exact .inl (by assumption)
    · exact .inr (by assumption)
    · cases z
  have sc : FnScope e.N e.ps (L2.defScope e.st) :=
    ⟨hkind, by simpa using k7, by simpa using k8, hnd, of_decide_eq_true k5, par, fun y hy => of_decide_eq_true (List.all_eq_true.mp k10 y hy)⟩
  obtain ⟨oc, od, dV, kV, doc, pm, an, cdv, ct, osl, rfl, lk, hcd, _, _⟩ := F.ex
  refine fnG_of lk hcd sc (fun vs H Q E z => ?_) fun A outer s H vs Q E hr hg z => ?_
  · obtain ⟨ts, S, ν, μ, st, d, z⟩ := z
    unfold runD at z
    split at z
    · rename_i hl
      rw [← d.length, hl, of_decide_eq_true k2]
    · exact z.elim
  · have g : Gd G n e.N (L2.defScope e.st) (fun c d _ H' => E c d H') (cxOf (CX G.P G.w) G.P G.w G.K G.mg G.base e.N e.q (L2.defScope e.st) f cdv A outer s H E) :=
      ⟨⟨rfl, rfl, rfl, rfl, rfl, hg⟩, rfl, rfl, hnd, rfl, hr, takes_of rfl rfl rfl rfl, hs⟩
    refine ⟨tS G (fun c d _ H' => E c d H') (exs cf Fu e.d.body), sndSs tb Fu e.d.body (L2.defBody e.st) _ _ _ g (fun _ => rfl) hkind (passes_of rfl) ⟨rfl, rfl⟩ k1, ?_⟩
    obtain ⟨ts, S, ν, μ, st, d, z⟩ := z
    unfold runD at z
    split at z
    · rename_i hl
      refine ⟨ts.map some ++ List.replicate (e.d.n - e.d.k) none, S, ν, μ, ⟨st, en_start d hl (of_decide_eq_true k3)⟩, ?_⟩
      cases ee : exs cf Fu e.d.body (ts.map some ++ List.replicate (e.d.n - e.d.k) none) S with
      | nx env' S' => rw [ee] at z; exact fun σ' H' ν' μ' a _ => z .non H' ν' μ' a dn_non
      | rt t S' =>
        rw [ee] at z
        intro v H' ν' μ' a d'
        simp only at z
        split at z
        · rename_i hc
          exact z v H' ν' μ (Af.cut st a hc.1) (Dn.pure t v hc.2 d')
        · exact z v H' ν' μ' a d'
      | ex c fs e' S' => rw [ee] at z; exact fun cls dx σ' H' ν' μ' a _ x => z cls dx H' ν' μ' a x
      | _ => rw [ee] at z; exact z.elim
    · exact z.elim
/-- each def's function object, its place -/
structure EnOk (G : Wd) (e : En) : Prop where
  ex : ∃ f fd dvs kws, FunD G.K e.x e.q (L2.defArgs e.st) (L2.defBody e.st) (L2.defScope e.st) dvs kws f fd ∧ match e.rk with
    | .fn => G.mg e.x = some (.ref f) ∧ Binds G.K fd e.ps []
    | .get c g => ∃ C p, ClG G c C ∧ PropOf G.K C g p f ∧ Binds G.K fd e.ps []
    | .init c j ks => ∃ C gg, ClG G c C ∧ Mk G.K C f ∧ KBn G.K fd e.ps (j + 1) ks gg (fun vs zs => vs ++ zs)
    | .initD c pd kd ws => ∃ C, ClG G c C ∧ Mk G.K C f ∧ ∀ w ∈ ws, ∃ gg gv, KBn G.K fd e.ps (w.j + 1) w.ks gg gv ∧
        ∀ (ν μ : List Addr) (H : Hp) (t : Tv) (v : V) (xs ys : List Tv) (vs zs : List V), Dn G ν μ H t v → Dns G ν μ H xs vs → Dns G ν μ H ys zs → Dns G ν μ H (t :: pickL w.pk xs (dfT (pd ++ w.ms.map (·.2))) ys) (gv (v :: vs) zs)
theorem mem_i {α : Type} {h : En → List α} {r : List En} {a : α} (m : a ∈ r.flatMap h) : ∃ e ∈ r, a ∈ h e := List.mem_flatMap.mp m
theorem fns_i {e : En} {x : Str} {i : Nat} (h : (x, i) ∈ e.fns) : e.rk = .fn ∧ x = e.x ∧ i = e.i := by
  unfold En.fns at h
  split at h
  · rename_i q
    obtain ⟨h1, h2⟩ := Prod.mk.inj (List.mem_singleton.mp h)
    exact ⟨q, h1, h2⟩
  · exact absurd h (by simp)
theorem pps_i {e : En} {f : Str} {c i : Nat} (h : (f, c, i) ∈ e.pps) : e.rk = .get c f ∧ i = e.i := by
  unfold En.pps at h
  split at h
  · rename_i c' f' q
    have h := List.mem_singleton.mp h
    simp only [Prod.mk.injEq] at h
    obtain ⟨rfl, rfl, h3⟩ := h
    exact ⟨q, h3⟩
  · exact absurd h (by simp)
theorem mks_i {cls : List (Str × List Str)} {e : En} {x : Str} {c nf i j : Nat} {ks : List Str} (h : (x, c, nf, i, j, ks) ∈ e.mks cls) : e.rk = .init c j ks ∧ i = e.i ∧ (clsOf cls c).1 = x ∧ (clsOf cls c).2.length = nf := by
  unfold En.mks at h
  split at h
  · rename_i c' j' ks' q
    split at h
    · rename_i p hp
      have h := List.mem_singleton.mp h
      simp only [Prod.mk.injEq] at h
      obtain ⟨rfl, rfl, rfl, rfl, rfl, rfl⟩ := h
      have e1 : clsOf cls c = p := by unfold clsOf; rw [List.getD_eq_getElem?_getD, hp]; rfl
      exact ⟨q, rfl, by rw [e1], by rw [e1]⟩
    · exact absurd h (by simp)
  · exact absurd h (by simp)
theorem mkds_i {cls : List (Str × List Str)} {e : En} {x : Str} {c nf i j : Nat} {ks : List Str} {pk : List (Nat × Nat)} {ds : List (List Int)} (h : (x, c, nf, i, j, ks, pk, ds) ∈ e.mkds cls) :
    ∃ pd kd ws, e.rk = .initD c pd kd ws ∧ i = e.i ∧ (clsOf cls c).1 = x ∧ (clsOf cls c).2.length = nf ∧ ∃ w ∈ ws, w.j = j ∧ w.ks = ks ∧ w.pk = pk ∧ pd ++ w.ms.map (·.2) = ds := by
  unfold En.mkds at h
  split at h
  · rename_i c' pd kd ws q
    split at h
    · rename_i p hp
      obtain ⟨w, hw, h⟩ := List.mem_map.mp h
      simp only [Prod.mk.injEq] at h
      obtain ⟨rfl, rfl, rfl, rfl, rfl, rfl, rfl, rfl⟩ := h
      have e1 : clsOf cls c' = p := by unfold clsOf; rw [List.getD_eq_getElem?_getD, hp]; rfl
      exact ⟨pd, kd, ws, q, rfl, by rw [e1], by rw [e1], w, hw, rfl, rfl, rfl, rfl⟩
    · exact absurd h (by simp)
  · exact absurd h (by simp)
theorem tab_ok {G : Wd} {T : Tb} {cls : List (Str × List Str)} (hc : G.cls = clsOf cls) (hs : ∃ o, G.base.get? sysModules = some o) (gl : ∀ x t, (x, t) ∈ T.gls → ∃ v u, G.mg x = some u ∧ RelV v u ∧ ∀ ν μ H, Dn G ν μ H t v) (bl : ∀ x, x ∈ T.bls → G.mg x = none)
    (kd : ∀ x k, (x, k) ∈ T.kds → ∃ kv u, KdV G k kv ∧ RelV kv u ∧ (G.mg x = some u ∨ (G.mg x = none ∧ bootBuiltins x = some u))) (at' : ∀ f c i, (f, c, i) ∈ T.atts → ∃ C, ClG G c C ∧ (G.cls c).2[i]? = some f)
    (xc : ∀ c x, T.xcs[c]? = some (x, []) → ∃ C, (G.xcs c).1 = x ∧ G.mg x = some (.ref C) ∧ XcOk G.K C)
    (sb : ∀ c x y b, (c, x, y, b) ∈ T.subs → ∃ C Cx Cy, G.mg (G.xcs c).1 = some (.ref C) ∧ XcOk G.K C ∧ G.mg x = some (.ref Cx) ∧ G.mg y = some (.ref Cy) ∧ PySem.W.exmOne G.K (.ref C) (.ref Cx) = some true ∧ PySem.W.kitOne G.K (.ref C) (.ref Cy) = some b) :
    ∀ (es : List En), okAll T cls es = true → (∀ e ∈ es, EnOk G e) → TbOk G (2 * es.length) (tab es) (tbOf T cls es)
  | [], _, _ => ⟨fun x i h => (List.not_mem_nil h).elim, gl, bl, kd, at', fun f c i h => (List.not_mem_nil h).elim, fun x c nf i j ks h => (List.not_mem_nil h).elim, fun x c nf i j ks pk ds h => (List.not_mem_nil h).elim, xc, sb⟩
  | e :: r, h, ho => by
    obtain ⟨h, h3⟩ := and2 h
    obtain ⟨h1, h2⟩ := and2 h
    have ih := tab_ok hc hs gl bl kd at' xc sb r h3 fun e he => ho e (List.mem_cons_of_mem _ he)
    obtain ⟨f, fd, dvs, kws, F, hm⟩ := (ho e List.mem_cons_self).ex
    have et : tab (e :: r) e.i = runD (tab r) e.d := if_pos rfl
    have here : FnG G (2 * r.length + 1) f fd e.ps (spF G (tab (e :: r) e.i)) := by rw [et]; exact def_ok ih hs h1 F
    have old : ∀ {e' : En}, e' ∈ r → tab (e :: r) e'.i = tab r e'.i := fun {e'} he' => if_neg fun z => (of_decide_eq_true h2) (List.mem_map.mpr ⟨e', he', z⟩)
    have le : 2 * r.length ≤ 2 * (e :: r).length := by simp only [List.length_cons]; omega
    have le1 : 2 * r.length + 1 + 1 ≤ 2 * (e :: r).length := by simp only [List.length_cons]; omega
    refine ⟨fun x i hx => ?_, gl, bl, kd, at', fun x c i hx => ?_, fun x c nf i j ks hx => ?_, fun x c nf i j ks pk ds hx => ?_, xc, sb⟩
    · rcases List.mem_append.mp (show (x, i) ∈ e.fns ++ r.flatMap En.fns from hx) with q | q
      · obtain ⟨q1, rfl, rfl⟩ := fns_i q
        rw [q1] at hm
        exact ⟨_, f, fd, e.ps, here, by omega, hm.1, F.kp, hm.2⟩
      · obtain ⟨k, fa, fd', ps, F', hk, z⟩ := ih.fn x i q
        obtain ⟨e', he', q'⟩ := mem_i q
        obtain ⟨_, _, rfl⟩ := fns_i q'
        rw [old he']
        exact ⟨k, fa, fd', ps, F', Nat.le_trans hk le, z⟩
    · rcases List.mem_append.mp (show (x, c, i) ∈ e.pps ++ r.flatMap En.pps from hx) with q | q
      · obtain ⟨q1, rfl⟩ := pps_i q
        rw [q1] at hm
        obtain ⟨C, p, c1, c2, c3⟩ := hm
        exact ⟨_, C, p, f, fd, e.ps, c1, c2, here, le1, c3⟩
      · obtain ⟨k, C, p, q', fd', ps, c1, c2, F', hk, z⟩ := ih.cl.pp x c i q
        obtain ⟨e', he', q'⟩ := mem_i q
        obtain ⟨_, rfl⟩ := pps_i q'
        rw [old he']
        exact ⟨k, C, p, _, fd', ps, c1, c2, F', Nat.le_trans hk le, z⟩
    · rcases List.mem_append.mp (show (x, c, nf, i, j, ks) ∈ e.mks cls ++ r.flatMap (En.mks cls) from hx) with q | q
      · obtain ⟨q1, rfl, q3, q4⟩ := mks_i q
        rw [q1] at hm
        obtain ⟨C, gg, c1, c2, c3⟩ := hm
        exact ⟨_, C, f, fd, e.ps, gg, c1, by rw [hc]; exact q3, by rw [hc]; exact q4, c2, here, le1, c3⟩
      · obtain ⟨k, C, f', fd', ps, gg, c1, c2, c3, c4, F', hk, z⟩ := ih.cl.mkr x c nf i j ks q
        obtain ⟨e', he', q'⟩ := mem_i q
        obtain ⟨_, rfl, _, _⟩ := mks_i q'
        rw [old he']
        exact ⟨k, C, f', fd', ps, gg, c1, c2, c3, c4, F', Nat.le_trans hk le, z⟩
    · rcases List.mem_append.mp (show (x, c, nf, i, j, ks, pk, ds) ∈ e.mkds cls ++ r.flatMap (En.mkds cls) from hx) with q | q
      · obtain ⟨pd, kd', ws, q1, rfl, q3, q4, w, hw, rfl, rfl, rfl, rfl⟩ := mkds_i q
        rw [q1] at hm
        obtain ⟨C, c1, c2, c3⟩ := hm
        obtain ⟨gg, gv, c4, c5⟩ := c3 w hw
        exact ⟨_, C, f, fd, e.ps, gg, gv, c1, by rw [hc]; exact q3, by rw [hc]; exact q4, c2, here, le1, c4, c5⟩
      · obtain ⟨k, C, f', fd', ps, gg, gv, c1, c2, c3, c4, F', hk, z⟩ := ih.cl.mkd x c nf i j ks pk ds q
        obtain ⟨e', he', q'⟩ := mem_i q
        obtain ⟨_, _, _, _, rfl, _⟩ := mkds_i q'
        rw [old he']
        exact ⟨k, C, f', fd', ps, gg, gv, c1, c2, c3, c4, F', Nat.le_trans hk le, z⟩
end Mp
noncomputable section
namespace Mp
open PySem L2 PySem.Spec PyProof.Rows
/-! ### what is observed behind the top -/
/-- a def, wherever it stands -/
structure DA where
  ad : PySem.W.Frag → Addr
  name : Str
  qual : Str
  params : Arguments
  body : List Stmt
  scope : Scope
  dfl : List He.Dv := []
  kwd : List (Str × He.Dv) := []
def faRec (K : PySem.W.Frag) (a : Addr) : Option FuncData := match K.lookup a with
  | some ⟨_, _, .func fd, _⟩ => some fd
  | _ => none
theorem faRec_of {K : PySem.W.Frag} {a : Addr} {fd : FuncData} (h : faRec K a = some fd) : ∃ oc od osl, K.lookup a = some ⟨oc, od, .func fd, osl⟩ := by
  unfold faRec at h
  split at h
  · rename_i oc od fd' osl q
    cases h
    exact ⟨oc, od, osl, q⟩
  · cases h
def DA.see (K : PySem.W.Frag) (d : DA) : He.FnW := (faRec K (d.ad K)).map fun fd => (fd.name, fd.qualname, fd.params, fd.body, fd.scope, fd.globals, fd.closure, fd.builtins)
def DA.want (d : DA) : He.FnW := some (d.name, d.qual, d.params, .stmts d.body, d.scope, mainGlobals, [], builtinsNs)
def DA.dvs (K : PySem.W.Frag) (d : DA) : List V := d.dfl.map (He.Dv.v K)
def DA.kws (K : PySem.W.Frag) (d : DA) : List (Str × V) := d.kwd.map fun q => (q.1, q.2.v K)
def DA.ok (K : PySem.W.Frag) (d : DA) : Bool := PySem.W.keepIn K (.ref (d.ad K)) && (match faRec K (d.ad K) with
  | some fd => PySem.W.codeIn K fd.code d.qual && (He.dflB K fd.defaults (d.dvs K) && He.kwdB K fd.kwdefaults (d.kws K))
  | none => false)
theorem DA.funD {K : PySem.W.Frag} {d : DA} (e : d.see K = d.want) (c : d.ok K = true) : ∃ fd, FunD K d.name d.qual d.params d.body d.scope (d.dvs K) (d.kws K) (d.ad K) fd := by
  obtain ⟨kp, c2⟩ := and2 c
  cases q : faRec K (d.ad K) with
  | none => rw [q] at c2; cases c2
  | some fd =>
    rw [q] at c2
    obtain ⟨c3, c4⟩ := and2 c2
    obtain ⟨c4, c5⟩ := and2 c4
    unfold DA.see at e
    rw [q] at e
    have e2 := Option.some.inj (show some _ = some _ from e)
    simp only [Prod.mk.injEq] at e2
    obtain ⟨h1, h2, h3, h4, h5, h6, h7, h8⟩ := e2
    obtain ⟨oc, od, osl, lk⟩ := faRec_of q
    refine ⟨fd, ⟨oc, od, fd.defaults, fd.kwdefaults, fd.doc, fd.pyModule, fd.annotations, fd.code, fd.closureTuple, osl, ?_, lk, c3, He.dflB_ok c4, He.kwdB_ok c5⟩, kp⟩
    cases fd
    cases h1; cases h2; cases h3; cases h4; cases h5; cases h6; cases h7; cases h8
    rfl
/-- a property's own places: it, its getter -/
def ppAt (K : PySem.W.Frag) (C : Addr) (f : Str) : Addr := match PySem.W.findIn K (.ref C) f with
  | some (some (.ref p)) => p
  | _ => 0
def gtAt (K : PySem.W.Frag) (C : Addr) (f : Str) : Addr := match PySem.W.recIn K (ppAt K C f) "property" with
  | some (.ref g :: _) => g
  | _ => 0
def ppB (K : PySem.W.Frag) (C : Addr) (f : Str) : Bool := He.eqO (PySem.W.findIn K (.ref C) f) (some (some (.ref (ppAt K C f)))) && (He.eqO (PySem.W.specialIn K (.ref (ppAt K C f)) "__get__") (some (some (.builtin "property.__get__"))) &&
  (decide (PySem.W.takesIn K (.ref (ppAt K C f)) = some true) && (match PySem.W.recIn K (ppAt K C f) "property" with
    | some (.ref _ :: _) => true
    | _ => false)))
theorem ppB_ok {K : PySem.W.Frag} {C : Addr} {f : Str} (h : ppB K C f = true) : PropOf K C f (ppAt K C f) (gtAt K C f) := by
  obtain ⟨h1, h⟩ := and2 h
  obtain ⟨h2, h⟩ := and2 h
  obtain ⟨h3, h4⟩ := and2 h
  refine ⟨He.eqO_ok h1, He.eqO_ok h2, of_decide_eq_true h3, ?_⟩
  unfold gtAt
  split at h4
  · rename_i g r q
    rw [q]
    exact ⟨r, rfl⟩
  · cases h4
/-- a class, for isinstance and for the fields -/
def bTys : List String := ["int", "bool", "tuple", "str", "list"]
def clsB (K : PySem.W.Frag) (x : Str) : Bool := He.eqO (PySem.W.findIn K (.ref (He.ga K x)) "__class__") (some (some (.builtin "object.__class__"))) && (He.eqO (PySem.W.specialIn K (.builtin "object.__class__") "__get__") (some (some (.builtin "getset_descriptor.__get__"))) &&
  (decide (PySem.W.takesIn K (.builtin "object.__class__") = some true) && (decide (PySem.W.mroIn K (He.ga K x) (.type "object") = some true) && bTys.all fun T => decide (PySem.W.kitOne K (.ref (He.ga K x)) (.type T) = some false))))
/-- a keyword-only default's place -/
def kwAt (f : Str × Option Str) (x : Str) (K : PySem.W.Frag) : Addr := match K.lookup (He.fAd K f) with
  | some ⟨_, _, .func fd, _⟩ => (match fd.kwdefaults with
    | .ref D => (match PySem.W.nsIn K D x with
      | some (some (.ref a)) => a
      | _ => 0)
    | _ => 0)
  | _ => 0
/-- an error's class -/
def xcB (K : PySem.W.Frag) (C : Addr) : Bool := He.eqO (PySem.W.findIn K (.ref C) "__getattribute__") (some (some (.builtin "BaseException.__getattribute__"))) && (He.eqO (PySem.W.findIn K (.ref C) "__getattr__") (some none) &&
  (decide (PySem.W.subIn K (.ref C) (.type "BaseException") = some true) && (PySem.W.hasDictIn K C && (He.eqO (PySem.W.findIn K (.ref C) "__class__") (some (some (.builtin "object.__class__"))) &&
  (He.eqO (PySem.W.specialIn K (.builtin "object.__class__") "__get__") (some (some (.builtin "getset_descriptor.__get__"))) && (decide (PySem.W.takesIn K (.builtin "object.__class__") = some true) && decide (PySem.W.mroIn K C (.type "object") = some true)))))))
theorem xcB_ok {K : PySem.W.Frag} {C : Addr} (h : xcB K C = true) : ExcC K C := by
  obtain ⟨h1, h⟩ := and2 h
  obtain ⟨h2, h⟩ := and2 h
  obtain ⟨h3, h⟩ := and2 h
  obtain ⟨h4, h⟩ := and2 h
  obtain ⟨h5, h⟩ := and2 h
  obtain ⟨h6, h⟩ := and2 h
  obtain ⟨h7, h8⟩ := and2 h
  exact ⟨He.eqO_ok h1, He.eqO_ok h2, of_decide_eq_true h3, h4, He.eqO_ok h5, He.eqO_ok h6, of_decide_eq_true h7, of_decide_eq_true h8⟩
/-- a class that an except clause catches, and what isinstance tells of it -/
def sbB (K : PySem.W.Frag) (p : Str × Str × Str × Bool) : Bool := decide (PySem.W.exmOne K (.ref (He.ga K p.1)) (.ref (He.ga K p.2.1)) = some true) && decide (PySem.W.kitOne K (.ref (He.ga K p.1)) (.ref (He.ga K p.2.2.1)) = some p.2.2.2)
/-- what a def is observed as -/
def En.da (cls : List (Str × List Str)) (e : En) : DA := match e.rk with
  | .fn => ⟨fun K => He.ga K e.x, e.x, e.q, L2.defArgs e.st, L2.defBody e.st, L2.defScope e.st, [], []⟩
  | .get c f => ⟨fun K => gtAt K (He.ga K (clsOf cls c).1) f, e.x, e.q, L2.defArgs e.st, L2.defBody e.st, L2.defScope e.st, [], []⟩
  | .initD c pd kd _ => ⟨fun K => He.ma K (He.ga K (clsOf cls c).1) "__init__", e.x, e.q, L2.defArgs e.st, L2.defBody e.st, L2.defScope e.st, (List.range pd.length).map fun i => .adr (He.dflAt ((clsOf cls c).1, some "__init__") i), kd.map fun q => (q.1, .adr (kwAt ((clsOf cls c).1, some "__init__") q.1))⟩
  | .init c _ _ => ⟨fun K => He.ma K (He.ga K (clsOf cls c).1) "__init__", e.x, e.q, L2.defArgs e.st, L2.defBody e.st, L2.defScope e.st, [.adr (He.dflAt ((clsOf cls c).1, some "__init__") 0)], []⟩
abbrev AlM : Type := (Bool × List He.FnW) × Bool
def isDct : Option Obj → Bool
  | some o => decide (o.cls = .type "dict")
  | none => false
/-- what is asked: facts; properties; classes; defs -/
structure Ask where
  fa : List He.Fa
  pp : List (Str × Str)
  cl : List Str
  da : List DA
  tp : List ((PySem.W.Frag → Addr) × List Int) := []
  xs : List Str := []
  sb : List (Str × Str × Str × Bool) := []
def Ask.ok (q : Ask) (K : PySem.W.Frag) : Bool := (q.fa.all fun f => f.ok K) && ((q.pp.all fun p => ppB K (He.ga K p.1) p.2) && ((q.cl.all fun x => clsB K x) && ((q.da.all fun d => d.ok K) && ((q.tp.all fun p => tupAt K (p.1 K) p.2) && ((q.xs.all fun x => xcB K (He.ga K x)) && q.sb.all fun p => sbB K p)))))
def Ask.see (q : Ask) (K : PySem.W.Frag) : Bool × List He.FnW := (q.ok K, q.da.map fun d => d.see K)
def Ask.want (q : Ask) : Bool × List He.FnW := (true, q.da.map DA.want)
def obsM (n : Nat) (q : Ask) (g : Addr → Option Obj) : AlM := (q.see (He.frG g (He.asD g n)), isDct (g sysModules))
theorem isDct_of {o : Option Obj} (h : isDct o = true) : ∃ u, o = some u ∧ u.cls = .type "dict" := by
  cases o with
  | none => cases h
  | some u => exact ⟨u, rfl, of_decide_eq_true h⟩
def hookM (n : Nat) (q : Ask) : PySem.W.Hook where
  α := AlM
  obs := fun s => obsM n q s.heap.get?
  val := fun _ => (q.want, true)
  says := fun _ h => ∃ K : PySem.W.Frag, K.In h ∧ q.see K = q.want ∧ ∃ o, h.get? sysModules = some o ∧ o.cls = .type "dict"
  of := fun _ _ e => ⟨_, He.frG_in, congrArg (fun z : AlM => z.1) e, isDct_of (congrArg (fun z : AlM => z.2) e)⟩
  keeps := fun _ _ _ ⟨K, hK, c, o, ho, hc⟩ k => ⟨K, PySem.W.Frag.In.keeps hK k, c, o, k _ _ ho, hc⟩
/-! ### the call of the law -/
theorem dns_ints {G : Wd} {ν μ : List Addr} {H : Hp} : ∀ ns : List Int, Dns G ν μ H (ns.map Tv.int) (ns.map V.int)
  | [] => by simp only [List.map_nil, Dns]
  | n :: r => by
    simp only [List.map_cons, Dns]
    exact ⟨_, _, rfl, dn_int, dns_ints r⟩
theorem law_callM {P : Program} {w : World} {K : PySem.W.Frag} {cl xc : Nat → Str × List Str} {mg mb : Str → Option Value} {k : Nat} {fa a : Addr} {fd : FuncData} {x : Str} {m : List Tv → M Tv} {s₁ : Shared} {vs : List Value} {ns : List Int}
    (KX : K.In s₁.heap) (hns : s₁.heap.Ns mainGlobals mg) (hb : s₁.heap.Ns builtinsNs mb) (hbb : ∀ x : Str, x ≠ "__name__" → mb x = bootBuiltins x) (hlim : s₁.heap.NoLimit) (hg : s₁.gens = #[]) (hsy : ∃ o, s₁.heap.get? sysModules = some o ∧ o.cls = .type "dict")
    (ha : s₁.heap.get? a = some { cls := .type "list", data := .seq vs.toArray }) (hi : IntsAre vs ns) (hl : ns.length ≤ sizeLine) (hr : Room k callerA)
    (F : ∀ base : Heap, K.In base → base.Ns mainGlobals mg → (∃ o, base.get? sysModules = some o) → FnG ⟨P, w, K, mg, base, cl, xc⟩ k fa fd [x] (spF ⟨P, w, K, mg, base, cl, xc⟩ m)) (hbind : ∀ (s : Shared) (u : Value), BindsTo s fd ⟨[u], []⟩ [(x, u)])
    (law : ∃ S', m [.scr (ns.map Tv.int)] [] = .ok (.bl true) S') :
    codeAny (model P w) callerA (.call (.ref fa) ⟨[.ref a], []⟩) (fun r s' => r = .ok (.ret (.bool true)) ∧ OldK s₁.heap s'.heap ∧ s'.os = s₁.os ∧ AllBare s'.gens) s₁ := by
  have rv := vals_ints hi
  have lenV := hi.length
  have dints : ∀ (G : Wd) (ν μ : List Addr) (H : Hp), Dns G ν μ H (ns.map Tv.int) (ns.map V.int) := fun G ν μ H => dns_ints ns
  have core : ∀ H : Hp, FzS K [] H a (ns.map V.int) → HOk P w H s₁.heap → (∀ b, H b ≠ none → b = a) → (H a ≠ none → K.lookup a = none) → Only H →
      codeAny (model P w) callerA (.call (.ref fa) ⟨[.ref a], []⟩) (fun r s' => r = .ok (.ret (.bool true)) ∧ OldK s₁.heap s'.heap ∧ s'.os = s₁.os ∧ AllBare s'.gens) s₁ := by
    intro H hS hok hA hK hO
    have onlyA : ∀ {b : Addr} {o : Obj}, s₁.heap.get? b = some o → o ≠ { cls := .type "list", data := .seq vs.toArray } → H b = none := fun {b o} e d => by
      cases q : H b with
      | none => rfl
      | some u =>
        have z : b = a := hA b (by rw [q]; simp)
        subst z
        rw [ha] at e
        exact absurd (Option.some.inj e).symm d
    have nsK : ∀ {b : Addr} {f : Str → Option Value}, s₁.heap.Ns b f → (hidT s₁.heap H).Ns b f := fun {b f} ⟨o, es, ep, e, d, r⟩ =>
      ⟨o, es, ep, hidT_get e (onlyA e fun z => by subst z; cases d), d, r⟩
    have kB : K.In (hidT s₁.heap H) := fun b o e => hidT_get (KX b o e) (by
      cases q : H b with
      | none => rfl
      | some u =>
        have z : b = a := hA b (by rw [q]; simp)
        subst z
        rw [hK (by rw [q]; simp)] at e
        cases e)
    have syB : ∃ o, (hidT s₁.heap H).get? sysModules = some o := by
      obtain ⟨o, e, c⟩ := hsy
      exact ⟨o, hidT_get e (onlyA e fun z => by
        subst z
        exact absurd (show (Value.type "list") = .type "dict" from c) (by decide))⟩
    have mB : Mod K mg (hidT s₁.heap H) := ⟨kB, nsK hns, ⟨mb, nsK hb, hbb⟩, let ⟨mc, h1, h2⟩ := hlim; ⟨mc, nsK h1, h2⟩⟩
    have e0 : Env0 P w K mg (hidT s₁.heap H) callerA [] s₁ H := ⟨rfl, mB, fun b o e => of_hidT e, Nat.le_of_eq (hidT_size _ _), trivial, fun b hb => absurd (show b ∈ ([] : List Addr) from hb) (by simp), hok, .of_eq hg⟩
    obtain ⟨S', em⟩ := law
    have sp : spF ⟨P, w, K, mg, hidT s₁.heap H, cl, xc⟩ m [.ref a] H (fun v _ => v = .bl true) fun _ _ _ => False := by
      refine ⟨[.scr (ns.map Tv.int)], [], [], [], ⟨rfl, List.nodup_nil, fun _ h => h, fun _ h => absurd h (by simp), fun n o h => absurd h (by simp)⟩, ?_, ?_⟩
      · simp only [Dns, Dn]
        exact ⟨_, _, rfl, ⟨a, _, rfl, hS, dints _ _ _ _⟩, rfl⟩
      · rw [em]
        intro v H' ν' μ' _ d
        have d' : Dn _ ν' μ' H' (.bl true) v := d
        simp only [Dn] at d'
        exact d'
    refine codeAny_mono ((F _ kB (nsK hns) syB).run callerA [] s₁ H ⟨[.ref a], []⟩ [.ref a] [.ref a] _ _ hr rfl e0 (hbind s₁ (.ref a)) (.cons rfl .nil) sp) fun r s' h => ?_
    cases r with
    | error e =>
      obtain ⟨_, _, _, _, _, _, _, _, _, _, _, _, z⟩ := h
      exact z.elim
    | ok fl =>
      cases fl with
      | next => exact False.elim h
      | brk => exact False.elim h
      | cont => exact False.elim h
      | ret u =>
        obtain ⟨v, H', os, bare, un, hok', r', q⟩ := h
        have q' : v = .bl true := q
        subst q'
        obtain rfl : u = Value.bool true := r'
        refine ⟨rfl, OldK.of_keep fun b o e => ?_, os, bare⟩
        cases q : H b with
        | none => exact un.keep b o e q (fun z => absurd (show b ∈ ([] : List Addr) from z) (by simp)) (by simp)
        | some u =>
          rcases hO b with z | ⟨ob, xs, z⟩
          · rw [q] at z; cases z
          · obtain ⟨e1, _⟩ := hok b _ z
            obtain ⟨e2, _⟩ := hok' b _ (un.frzs b ob _ z)
            rw [e] at e1
            cases e1
            exact e2
  cases hk : K.lookup a with
  | some o =>
    have e := KX a o hk
    rw [ha] at e
    cases e
    exact core (fun _ => none) (.inr ⟨_, vs.toArray, _, hk, rfl, rfl, rfl, by rw [List.size_toArray, lenV]; exact hl, by simpa using rv⟩) (fun b u z => nomatch (show (none : Option HO) = some u from z)) (fun b z => absurd rfl z) (fun z => absurd rfl z) fun _ => .inl rfl
  | none =>
    refine core (fun b => if b = a then some (.frz { cls := .type "list", data := .seq vs.toArray } (.lst (ns.map V.int))) else none) (.inl ⟨by simp, _, if_pos rfl⟩) (fun b u z => ?_) (fun b z => ?_) (fun _ => hk) fun b => ?_
    · by_cases hb : b = a
      · have y := (if_pos hb).symm.trans z
        cases y
        subst hb
        exact ⟨ha, by rw [List.length_map]; exact hl, vs, _, rv, ha⟩
      · cases (if_neg hb).symm.trans z
    · by_cases hb : b = a
      · exact hb
      · exact absurd (if_neg hb) z
    · by_cases hb : b = a
      · exact .inr ⟨_, _, if_pos hb⟩
      · exact .inl (if_neg hb)
/-! ### the tables' facts, told by names -/
def PatB (e : En) (np : Nat) : List Pat → Prop
  | [] => True
  | w :: r => (∀ (T D : Addr) (doc pm : Value) (an : Option Addr) (cdv ct : Value) (us its mv ws : List Value), us.length = w.j + 1 → its.length = np → mv.length = w.ms.length → ws.length = w.ks.length →
      ∃ k, bindArgs (PySem.W.fnOf e.x e.q (L2.defArgs e.st) (L2.defBody e.st) (L2.defScope e.st) (.ref T) (.ref D) doc pm an cdv ct) ⟨us, w.ks.zip ws⟩ = seqItems? (.ref T) >>= k ∧ KwChain D ((w.ms.map (·.1)).zip mv) (k (some its.toArray)) (e.ps.zip (pickS w.pk us (its ++ mv) ws))) ∧ PatB e np r
theorem patB_of {e : En} {np : Nat} : ∀ {ws : List Pat} {w : Pat}, PatB e np ws → w ∈ ws → PatB e np [w]
  | w' :: r, w, h, hw => by
    rcases List.mem_cons.mp hw with q | q
    · rw [q]; exact ⟨h.1, trivial⟩
    · exact patB_of h.2 q
def EnB (e : En) : Prop := match e.rk with
  | .initD _ pd _ ws => PatB e pd.length ws
  | .init _ j ks => ∀ (T : Addr) (kV doc pm : Value) (an : Option Addr) (cdv ct : Value) (us its ws : List Value), us.length = j + 1 → its.length = 1 → ws.length = ks.length →
      ∃ k, bindArgs (PySem.W.fnOf e.x e.q (L2.defArgs e.st) (L2.defBody e.st) (L2.defScope e.st) (.ref T) kV doc pm an cdv ct) ⟨us, ks.zip ws⟩ = seqItems? (.ref T) >>= k ∧ k (some its.toArray) = pure (e.ps.zip (us ++ ws))
  | _ => ∀ (kV doc pm : Value) (an : Option Addr) (cdv ct : Value) (us : List Value), us.length = e.ps.length →
      bindArgs (PySem.W.fnOf e.x e.q (L2.defArgs e.st) (L2.defBody e.st) (L2.defScope e.st) .none kV doc pm an cdv ct) ⟨us, []⟩ = pure (e.ps.zip us)
def AllB : List En → Prop
  | [] => True
  | e :: r => EnB e ∧ AllB r
theorem allB_of : ∀ {es : List En} {e : En}, AllB es → e ∈ es → EnB e
  | e' :: r, e, h, he => by
    rcases List.mem_cons.mp he with q | q
    · rw [q]; exact h.1
    · exact allB_of h.2 q
/-- the constants: whole numbers of the module -/
def glF (p : Str × Tv) : List He.Fa := match p.2 with
  | .int i => [.int p.1 i]
  | .str z => [.str p.1 z]
  | .tup _ => [.glo p.1]
  | _ => []
/-- a tuple of whole numbers -/
def glT (p : Str × Tv) : List ((PySem.W.Frag → Addr) × List Int) := match p.2 with
  | .tup ts => (match intsOf ts with
    | some ns => [(fun K => He.ga K p.1, ns)]
    | none => [])
  | _ => []
def glOk (p : Str × Tv) : Bool := match p.2 with
  | .int _ => true
  | .str _ => true
  | .tup ts => (intsOf ts).isSome
  | _ => false
def kdOk (p : Str × Kd) : Bool := match p.2 with
  | .int => decide (p.1 = ("int" : Str))
  | .bool => decide (p.1 = ("bool" : Str))
  | .tuple => decide (p.1 = ("tuple" : Str))
  | .str => decide (p.1 = ("str" : Str))
  | .list => decide (p.1 = ("list" : Str))
  | .cls _ => false
/-- a field's name, place: the table's row -/
def attOk (cls : List (Str × List Str)) (p : Str × Nat × Nat) : Bool := decide (p.2.1 < cls.length) && decide ((clsOf cls p.2.1).2[p.2.2]? = some p.1)
def clsOk (cls : List (Str × List Str)) : Bool := cls.all fun p => decide p.2.Nodup && decide (p.2.length < 1000)
def enOk (cls : List (Str × List Str)) (e : En) : Bool := match e.rk with
  | .fn => true
  | .get c _ => decide (c < cls.length)
  | .init c _ _ => decide (c < cls.length)
  | .initD c pd kd ws => decide (c < cls.length) && !pd.isEmpty && !kd.isEmpty && (ws.all fun w => w.ms.all fun m => decide (m ∈ kd))
/-- the defaults -/
def tpEn (cls : List (Str × List Str)) (e : En) : List ((PySem.W.Frag → Addr) × List Int) := match e.rk with
  | .initD c pd kd _ => ((List.range pd.length).zip pd).map (fun p => (He.dflAt ((clsOf cls c).1, some "__init__") p.1, p.2)) ++ kd.map fun q => (kwAt ((clsOf cls c).1, some "__init__") q.1, q.2)
  | _ => []
def faEn (e : En) : List He.Fa := match e.rk with
  | .fn => [.glo e.x]
  | _ => []
def ppEn (cls : List (Str × List Str)) (e : En) : List (Str × Str) := match e.rk with
  | .get c f => [((clsOf cls c).1, f)]
  | _ => []
def faCl (p : Str × List Str) : List He.Fa := [.glo p.1, .cls p.1, .mkr p.1] ++ p.2.map (.noat p.1)
def faXc (p : Str × List Str) : List He.Fa := [.glo p.1, .exc p.1]
def faSb (p : Nat × Str × Str × Bool) : List He.Fa := [.glo p.2.1, .glo p.2.2.1]
def sbOf (T : Tb) (p : Nat × Str × Str × Bool) : Str × Str × Str × Bool := ((clsOf T.xcs p.1).1, p.2.1, p.2.2.1, p.2.2.2)
def faOld (T : Tb) (cls : List (Str × List Str)) (es : List En) : List He.Fa := es.flatMap faEn ++ T.bls.map He.Fa.free ++ T.kds.map (fun p => .free p.1) ++ T.gls.flatMap glF ++ [.free ""] ++ cls.flatMap faCl
def faOf (T : Tb) (cls : List (Str × List Str)) (es : List En) : List He.Fa := faOld T cls es ++ (T.xcs.flatMap faXc ++ T.subs.flatMap faSb)
theorem fa_old {T : Tb} {cls : List (Str × List Str)} {es : List En} {f : He.Fa} (h : f ∈ faOld T cls es) : f ∈ faOf T cls es := List.mem_append.mpr (.inl h)
def askOf (T : Tb) (cls : List (Str × List Str)) (es : List En) : Ask := ⟨faOf T cls es, es.flatMap (ppEn cls), cls.map (·.1), es.map (En.da cls), T.gls.flatMap glT ++ es.flatMap (tpEn cls), T.xcs.map (·.1), T.subs.map (sbOf T)⟩
section
variable {P : Program} {w : World} {K : PySem.W.Frag} {h : Heap} {mg : Str → Option Value} {T : Tb} {cls : List (Str × List Str)} {es : List En} {base : Heap}
theorem ask_fa {q : Ask} (c : q.see K = q.want) : ∀ f ∈ q.fa, f.ok K = true := fun f hf => List.all_eq_true.mp (and2 (congrArg (fun z : Bool × List He.FnW => z.1) c)).1 f hf
theorem ask_pp {q : Ask} (c : q.see K = q.want) : ∀ p ∈ q.pp, ppB K (He.ga K p.1) p.2 = true := fun f hf => List.all_eq_true.mp (and2 (and2 (congrArg (fun z : Bool × List He.FnW => z.1) c)).2).1 f hf
theorem ask_cl {q : Ask} (c : q.see K = q.want) : ∀ x ∈ q.cl, clsB K x = true := fun f hf => List.all_eq_true.mp (and2 (and2 (and2 (congrArg (fun z : Bool × List He.FnW => z.1) c)).2).2).1 f hf
theorem ask_da {q : Ask} (c : q.see K = q.want) : ∀ d ∈ q.da, ∃ fd, FunD K d.name d.qual d.params d.body d.scope (d.dvs K) (d.kws K) (d.ad K) fd := fun d hd => by
  have c1 := List.all_eq_true.mp (and2 (and2 (and2 (and2 (congrArg (fun z : Bool × List He.FnW => z.1) c)).2).2).2).1 d hd
  obtain ⟨i, hi⟩ := List.mem_iff_getElem?.mp hd
  have e : q.da.map (fun d => d.see K) = q.da.map DA.want := congrArg (fun z : Bool × List He.FnW => z.2) c
  have e2 : (q.da.map fun d => d.see K)[i]? = (q.da.map DA.want)[i]? := by rw [e]
  rw [List.getElem?_map, List.getElem?_map, hi] at e2
  exact DA.funD (Option.some.inj e2) c1
theorem ask_tp {q : Ask} (c : q.see K = q.want) : ∀ p ∈ q.tp, tupAt K (p.1 K) p.2 = true := fun f hf => List.all_eq_true.mp (and2 (and2 (and2 (and2 (and2 (congrArg (fun z : Bool × List He.FnW => z.1) c)).2).2).2).2).1 f hf
theorem ask_xs {q : Ask} (c : q.see K = q.want) : ∀ x ∈ q.xs, xcB K (He.ga K x) = true := fun f hf => List.all_eq_true.mp (and2 (and2 (and2 (and2 (and2 (and2 (congrArg (fun z : Bool × List He.FnW => z.1) c)).2).2).2).2).2).1 f hf
theorem ask_sb {q : Ask} (c : q.see K = q.want) : ∀ p ∈ q.sb, sbB K p = true := fun f hf => List.all_eq_true.mp (and2 (and2 (and2 (and2 (and2 (and2 (congrArg (fun z : Bool × List He.FnW => z.1) c)).2).2).2).2).2).2 f hf
theorem cls_in {c : Nat} (hc : c < cls.length) : clsOf cls c ∈ cls := by
  unfold clsOf
  rw [List.getD_eq_getElem?_getD, List.getElem?_eq_getElem hc]
  exact List.getElem_mem hc
theorem clG_of (X : K.In h) (Gn : h.Ns mainGlobals mg) (c : (askOf T cls es).see K = (askOf T cls es).want) (ok : clsOk cls = true) {i : Nat} (hi : i < cls.length) : ClG ⟨P, w, K, mg, base, clsOf cls, clsOf T.xcs⟩ i (He.ga K (clsOf cls i).1) := by
  have m := cls_in hi
  have f : ∀ f ∈ faCl (clsOf cls i), f.ok K = true := fun f hf => ask_fa c f (by
    show f ∈ faOf T cls es
    refine fa_old ?_
    unfold faOld
    rw [List.mem_append]
    exact .inr (List.mem_flatMap.mpr ⟨_, m, hf⟩))
  obtain ⟨o1, o2⟩ := and2 (List.all_eq_true.mp ok _ m)
  exact ⟨He.glo_ok X Gn (f (.glo _) (by simp [faCl])), He.cls_ok (f (.cls _) (by simp [faCl])), of_decide_eq_true o1, fun a ha => He.noat_ok (f (.noat _ a) (by simp only [faCl, List.mem_append, List.mem_map]; exact .inr ⟨a, ha, rfl⟩)), of_decide_eq_true o2⟩
theorem kbn_rel {vs ds zs : List V} {us its ws : List Value} (h1 : Vals vs us) (_ : Vals ds its) (h3 : Vals zs ws) : Vals (vs ++ zs) (us ++ ws) := h1.append h3
theorem enOk_of (X : K.In h) (Gn : h.Ns mainGlobals mg) (c : (askOf T cls es).see K = (askOf T cls es).want) (ok : clsOk cls = true) {e : En} (he : e ∈ es) (eo : enOk cls e = true) (eb : EnB e) : EnOk ⟨P, w, K, mg, base, clsOf cls, clsOf T.xcs⟩ e := by
  obtain ⟨fd, F⟩ := ask_da c (e.da cls) (List.mem_map.mpr ⟨e, he, rfl⟩)
  have fact : ∀ f ∈ faEn e, f.ok K = true := fun f hf => ask_fa c f (by
    show f ∈ faOf T cls es
    refine fa_old ?_
    simp only [faOld, List.mem_append, List.mem_flatMap]
    exact .inl (.inl (.inl (.inl (.inl ⟨e, he, hf⟩)))))
  have prop : ∀ p ∈ ppEn cls e, ppB K (He.ga K p.1) p.2 = true := fun p hp => ask_pp c p (List.mem_flatMap.mpr ⟨e, he, hp⟩)
  unfold En.da at F
  unfold EnB at eb
  unfold enOk at eo
  unfold faEn at fact
  unfold ppEn at prop
  constructor
  cases hr : e.rk with
  | fn =>
    rw [hr] at F eb fact
    exact ⟨_, fd, [], [], F, He.glo_ok X Gn (fact (.glo e.x) (by simp)), F.bindsN eb⟩
  | get i f =>
    rw [hr] at F eb eo prop
    exact ⟨_, fd, [], [], F, _, _, clG_of X Gn c ok (of_decide_eq_true eo), ppB_ok (prop _ (List.mem_singleton.mpr rfl)), F.bindsN eb⟩
  | init i j ks =>
    rw [hr] at F eb eo
    have hi := of_decide_eq_true eo
    have m := cls_in hi
    have f : (He.Fa.mkr (clsOf cls i).1).ok K = true := ask_fa c _ (by
      show _ ∈ faOf T cls es
      refine fa_old ?_
      unfold faOld
      rw [List.mem_append]
      exact .inr (List.mem_flatMap.mpr ⟨_, m, by simp [faCl]⟩))
    obtain ⟨its, B⟩ := F.kbindsD (ps := e.ps) (j + 1) ks (fun {_} us _ ws => us ++ ws) (by simp [DA.dvs]) kbn_rel (fun T kV doc pm an cdv ct us its ws h1 h2 h3 => eb T kV doc pm an cdv ct us its ws h1 (by rw [h2]; rfl) h3)
    exact ⟨_, fd, _, [], F, _, _, clG_of X Gn c ok hi, He.mkr_ok f, B⟩
  | initD i pd kd ws =>
    rw [hr] at F eb eo
    obtain ⟨eo, e4⟩ := and2 eo
    obtain ⟨eo, e3⟩ := and2 eo
    obtain ⟨e1, e2⟩ := and2 eo
    have hi := of_decide_eq_true e1
    have m := cls_in hi
    have f : (He.Fa.mkr (clsOf cls i).1).ok K = true := ask_fa c _ (by
      show _ ∈ faOf T cls es
      refine fa_old ?_
      unfold faOld
      rw [List.mem_append]
      exact .inr (List.mem_flatMap.mpr ⟨_, m, by simp [faCl]⟩))
    have tp : ∀ p ∈ tpEn cls e, tupAt K (p.1 K) p.2 = true := fun p hp => ask_tp c p (List.mem_append.mpr (.inr (List.mem_flatMap.mpr ⟨e, he, hp⟩)))
    unfold tpEn at tp
    rw [hr] at tp
    refine ⟨_, fd, _, _, F, _, clG_of X Gn c ok hi, He.mkr_ok f, fun w' hw => ?_⟩
    have hwm : ∀ m ∈ w'.ms, m ∈ kd := fun m hm => of_decide_eq_true (List.all_eq_true.mp (List.all_eq_true.mp e4 w' hw) m hm)
    have pb := (patB_of eb hw).1
    have dl : ∀ ds : List He.Dv, (DA.dvs K ⟨fun K => He.ma K (He.ga K (clsOf cls i).1) "__init__", e.x, e.q, L2.defArgs e.st, L2.defBody e.st, L2.defScope e.st, ds, []⟩).length = ds.length := fun ds => by simp [DA.dvs]
    obtain ⟨gg, B⟩ := kbindsM (ps := e.ps) F (w'.j + 1) w'.ks (w'.ms.map fun m => (m.1, V.ref (kwAt ((clsOf cls i).1, some "__init__") m.1 K))) w'.pk
      (fun z => by
        have := congrArg List.length z
        simp [DA.dvs] at this
        cases pd with
        | nil => cases e2
        | cons _ _ => simp at this)
      (fun z => by
        have := congrArg List.length z
        simp [DA.kws] at this
        cases kd with
        | nil => cases e3
        | cons _ _ => simp at this)
      (fun q hq => by
        obtain ⟨m, hm, rfl⟩ := List.mem_map.mp hq
        simp only [DA.kws, List.map_map]
        exact List.mem_map.mpr ⟨m, hwm m hm, rfl⟩)
      (fun T D doc pm an cdv ct us its mv zs h1 h2 h3 h4 => by
        have z := pb T D doc pm an cdv ct us its mv zs h1 (by rw [h2]; simp [DA.dvs]) (by rw [h3]; simp) h4
        have en : ((w'.ms.map fun m => (m.1, V.ref (kwAt ((clsOf cls i).1, some "__init__") m.1 K))).map (·.1)) = w'.ms.map (·.1) := by rw [List.map_map]; rfl
        rw [en]
        exact z)
    refine ⟨gg, _, B, fun ν μ H t v xs ys vs zs d0 d1 d2 => ?_⟩
    have ed : (List.map (fun i_1 => He.Dv.v K (.adr (He.dflAt ((clsOf cls i).1, some "__init__") i_1))) (List.range pd.length)) ++ ((w'.ms.map fun m => (m.1, V.ref (kwAt ((clsOf cls i).1, some "__init__") m.1 K))).map (·.2)) =
        ((List.range pd.length).map (fun j => He.dflAt ((clsOf cls i).1, some "__init__") j K) ++ w'.ms.map fun m => kwAt ((clsOf cls i).1, some "__init__") m.1 K).map V.ref := by
      rw [List.map_append, List.map_map, List.map_map, List.map_map]
      rfl
    have dd : Dns ⟨P, w, K, mg, base, clsOf cls, clsOf T.xcs⟩ ν μ H (dfT (pd ++ w'.ms.map (·.2))) (((List.range pd.length).map (fun j => He.dflAt ((clsOf cls i).1, some "__init__") j K) ++ w'.ms.map fun m => kwAt ((clsOf cls i).1, some "__init__") m.1 K).map V.ref) := by
      refine dfT_dn (by simp) fun p hp => ?_
      rw [List.zip_append (by simp)] at hp
      rcases List.mem_append.mp hp with q | q
      · rw [List.zip_map_left] at q
        obtain ⟨r, hr', rfl⟩ := List.mem_map.mp q
        exact tp _ (List.mem_append.mpr (.inl (List.mem_map.mpr ⟨r, hr', rfl⟩)))
      · rw [List.zip_map'] at q
        obtain ⟨r, hr', rfl⟩ := List.mem_map.mp q
        exact tp _ (List.mem_append.mpr (.inr (List.mem_map.mpr ⟨r, hwm r hr', rfl⟩)))
    rw [← ed] at dd
    have z := Dns.pick d1 dd d2 w'.pk
    simp only [pickS, DA.dvs, List.map_map, List.take_succ_cons, List.take_zero, List.drop_succ_cons, List.drop_zero, List.singleton_append]
    simp only [Dns]
    refine ⟨v, _, rfl, d0, ?_⟩
    simp only [List.map_map] at z
    exact z
theorem intsOf_eq : ∀ {ts : List Tv} {ns : List Int}, intsOf ts = some ns → ts = ns.map .int
  | [], ns, h => by cases h; rfl
  | t :: r, ns, h => by
    cases t with
    | int i =>
      simp only [intsOf] at h
      obtain ⟨ms, h1, rfl⟩ := Option.map_eq_some_iff.mp h
      rw [intsOf_eq h1]
      rfl
    | _ => simp [intsOf] at h
theorem facts_of (X : K.In h) (Gn : h.Ns mainGlobals mg) (c : (askOf T cls es).see K = (askOf T cls es).want) {rs : List En}
    (sub : ∀ e ∈ rs, e ∈ es) (ab : AllB rs) (ok : okAll T cls rs = true) (og : T.gls.all glOk = true) (okd : T.kds.all kdOk = true) (oa : T.atts.all (attOk cls) = true) (oc : clsOk cls = true) (oe : rs.all (enOk cls) = true) (os : T.subs.all (fun p => decide (p.1 < T.xcs.length)) = true) (hs : ∃ o, base.get? sysModules = some o) :
    TbOk ⟨P, w, K, mg, base, clsOf cls, clsOf T.xcs⟩ (2 * rs.length) (tab rs) (tbOf T cls rs) := by
  have fact : ∀ f ∈ faOf T cls es, f.ok K = true := ask_fa c
  have fr : ∀ x, He.Fa.free x ∈ faOf T cls es → mg x = none := fun x hx => He.free_ok X Gn (fact _ hx)
  have nm : mg "" = none := fr _ (fa_old (by simp [faOld]))
  refine tab_ok (G := ⟨P, w, K, mg, base, clsOf cls, clsOf T.xcs⟩) rfl hs (fun x t hx => ?_) (fun x hx => fr x (fa_old (by simp [faOld, hx]))) (fun x k hx => ?_) (fun f i j hx => ?_) (fun k x hx => ?_) (fun k x y b hx => ?_) rs ok fun e he => enOk_of X Gn c oc (sub e he) (List.all_eq_true.mp oe e he) (allB_of ab he)
  · have z := List.all_eq_true.mp og _ hx
    have hm : ∀ f ∈ glF (x, t), f ∈ faOf T cls es := fun f hf => by
      refine fa_old ?_
      simp only [faOld, List.mem_append, List.mem_flatMap]
      exact .inl (.inl (.inr ⟨_, hx, hf⟩))
    cases t with
    | int i =>
      obtain ⟨k, q⟩ := He.int_ok X Gn (fact _ (hm (.int x i) (by simp [glF])))
      exact ⟨.int i, _, q, ⟨k, rfl⟩, fun _ _ _ => dn_int⟩
    | str y =>
      obtain ⟨k, q⟩ := He.str_ok X Gn (fact _ (hm (.str x y) (by simp [glF])))
      exact ⟨.str y, _, q, ⟨k, rfl⟩, fun _ _ _ => dn_str⟩
    | tup ts =>
      have q := He.glo_ok X Gn (fact _ (hm (.glo x) (by simp [glF])))
      cases e1 : intsOf ts with
      | none => rw [show glOk (x, .tup ts) = (intsOf ts).isSome from rfl, e1] at z; cases z
      | some ns =>
        have et : ts = ns.map .int := intsOf_eq e1
        have t1 := ask_tp c (fun K => He.ga K x, ns) (List.mem_append.mpr (.inl (List.mem_flatMap.mpr ⟨_, hx, by
          unfold glT
          simp only [e1]
          exact List.mem_singleton.mpr rfl⟩)))
        rw [et]
        exact ⟨.ref _, _, q, rfl, fun ν μ H => tupAt_dn t1⟩
    | _ => cases z
  · have z := List.all_eq_true.mp okd _ hx
    have hn : mg x = none := fr x (fa_old <| by simp only [faOld, List.mem_append, List.mem_map]; exact .inl (.inl (.inl (.inr ⟨_, hx, rfl⟩))))
    have no : ∀ Ty ∈ bTys, ∀ (c : Nat) (C : Addr), mg (clsOf cls c).1 = some (.ref C) → ClsF ⟨P, w, K, mg, base, clsOf cls, clsOf T.xcs⟩ C ∧ PySem.W.kitOne K (.ref C) (.type Ty) = some false := fun Ty hT i C hc => by
      by_cases hi : i < cls.length
      · have cg : ClG ⟨P, w, K, mg, base, clsOf cls, clsOf T.xcs⟩ i (He.ga K (clsOf cls i).1) := clG_of X Gn c oc hi
        have e1 : mg (clsOf cls i).1 = some (.ref (He.ga K (clsOf cls i).1)) := cg.at'
        rw [e1] at hc
        cases hc
        obtain ⟨h1, q⟩ := and2 (ask_cl c (clsOf cls i).1 (List.mem_map.mpr ⟨_, cls_in hi, rfl⟩))
        obtain ⟨h2, q⟩ := and2 q
        obtain ⟨h3, q⟩ := and2 q
        obtain ⟨h4, h5⟩ := and2 q
        exact ⟨⟨cg.cl, He.eqO_ok h1, He.eqO_ok h2, of_decide_eq_true h3, of_decide_eq_true h4⟩, of_decide_eq_true (List.all_eq_true.mp h5 Ty hT)⟩
      · have e1 : clsOf cls i = (("" : Str), ([] : List Str)) := by
          unfold clsOf
          rw [List.getD_eq_getElem?_getD, List.getElem?_eq_none (by omega)]
          rfl
        rw [e1, nm] at hc
        cases hc
    cases k with
    | cls c => cases z
    | int =>
      have e : x = "int" := of_decide_eq_true z
      subst e
      exact ⟨.ty "int", .type "int", ⟨rfl, no _ (by decide)⟩, rfl, .inr ⟨hn, by decide +kernel⟩⟩
    | bool =>
      have e : x = "bool" := of_decide_eq_true z
      subst e
      exact ⟨.ty "bool", .type "bool", ⟨rfl, no _ (by decide)⟩, rfl, .inr ⟨hn, by decide +kernel⟩⟩
    | tuple =>
      have e : x = "tuple" := of_decide_eq_true z
      subst e
      exact ⟨.ty "tuple", .type "tuple", ⟨rfl, no _ (by decide)⟩, rfl, .inr ⟨hn, by decide +kernel⟩⟩
    | str =>
      have e : x = "str" := of_decide_eq_true z
      subst e
      exact ⟨.ty "str", .type "str", ⟨rfl, no _ (by decide)⟩, rfl, .inr ⟨hn, by decide +kernel⟩⟩
    | list =>
      have e : x = "list" := of_decide_eq_true z
      subst e
      exact ⟨.ty "list", .type "list", ⟨rfl, no _ (by decide)⟩, rfl, .inr ⟨hn, by decide +kernel⟩⟩
  · obtain ⟨z1, z2⟩ := and2 (List.all_eq_true.mp oa _ hx)
    exact ⟨_, clG_of X Gn c oc (of_decide_eq_true z1), of_decide_eq_true z2⟩
  · have mx : (x, []) ∈ T.xcs := List.mem_of_getElem? hx
    have e1 : clsOf T.xcs k = (x, []) := by unfold clsOf; rw [List.getD_eq_getElem?_getD, hx]; rfl
    have fx : ∀ f ∈ faXc (x, []), f.ok K = true := fun f hf => fact f (List.mem_append.mpr (.inr (List.mem_append.mpr (.inl (List.mem_flatMap.mpr ⟨_, mx, hf⟩)))))
    obtain ⟨g1, g2⟩ := and2 (fx (.exc x) (by simp [faXc]))
    obtain ⟨g2, g3⟩ := and2 g2
    obtain ⟨g3, g4⟩ := and2 g3
    exact ⟨He.ga K x, congrArg (·.1) e1, He.glo_ok X Gn (fx (.glo x) (by simp [faXc])), g1, g2, of_decide_eq_true g3, of_decide_eq_true g4, xcB_ok (ask_xs c x (List.mem_map.mpr ⟨_, mx, rfl⟩))⟩
  · have fx : ∀ f ∈ faSb (k, x, y, b), f.ok K = true := fun f hf => fact f (List.mem_append.mpr (.inr (List.mem_append.mpr (.inr (List.mem_flatMap.mpr ⟨_, hx, hf⟩)))))
    have sb := ask_sb c (sbOf T (k, x, y, b)) (List.mem_map.mpr ⟨_, hx, rfl⟩)
    obtain ⟨s1, s2⟩ := and2 sb
    have hk : k < T.xcs.length := of_decide_eq_true (List.all_eq_true.mp os _ hx)
    have mx : clsOf T.xcs k ∈ T.xcs := cls_in hk
    have fc : ∀ f ∈ faXc (clsOf T.xcs k), f.ok K = true := fun f hf => fact f (List.mem_append.mpr (.inr (List.mem_append.mpr (.inl (List.mem_flatMap.mpr ⟨_, mx, hf⟩)))))
    obtain ⟨g1, g2⟩ := and2 (fc (.exc (clsOf T.xcs k).1) (by simp [faXc]))
    obtain ⟨g2, g3⟩ := and2 g2
    obtain ⟨g3, g4⟩ := and2 g3
    exact ⟨He.ga K (clsOf T.xcs k).1, He.ga K x, He.ga K y, He.glo_ok X Gn (fc (.glo _) (by simp [faXc])), ⟨g1, g2, of_decide_eq_true g3, of_decide_eq_true g4, xcB_ok (ask_xs c _ (List.mem_map.mpr ⟨_, mx, rfl⟩))⟩,
      He.glo_ok X Gn (fx (.glo x) (by simp [faSb])), He.glo_ok X Gn (fx (.glo y) (by simp [faSb])), of_decide_eq_true s1, of_decide_eq_true s2⟩
end
/-! ### a law -/
theorem walkM {l : PySem.W.OpenLaw} {n : Nat} {q : Program} {loose : List Str} {XP : (Str → Option Value) → Heap → Prop} {d : DefRec} {T : Tb} {cls : List (Str × List Str)} {e : En} {r : List En} {x : Str} {N0 : Nat}
    (hn : l.most = some n) (hn2 : n ≤ sizeLine) (hdf : d.params.defaults = []) (hr : Room (2 * r.length + 1) callerA) (hx : e.ps = [x]) (hd : d.name = e.x) (hk : e.rk = .fn) (hq : e.q = e.x)
    (ab : AllB (e :: r)) (ok : okAll T cls (e :: r) = true) (og : T.gls.all glOk = true) (okd : T.kds.all kdOk = true) (oa : T.atts.all (attOk cls) = true) (oc : clsOk cls = true) (oe : r.all (enOk cls) = true) (os : T.subs.all (fun p => decide (p.1 < T.xcs.length)) = true)
    (law : ∀ ns : List Int, ns.length ≤ n → (∀ k ∈ ns, Builtin.Int.intBits k ≤ 1048576) → ∃ S', runD (tab r) e.d [.scr (ns.map Tv.int)] [] = .ok (.bl true) S') :
    PySem.W.WalkO q loose XP (hookM N0 (askOf T cls (e :: r))).says l.row.toRowW d [] (fun f vs => PySem.call f vs) := by
  refine Att.attach_callB hn hdf fun w s₀ s₁ mg mb fa o pm cd doc a vs ns G Y ho hd' hcd hmg hobj hints hlen hbits hg => ?_
  obtain ⟨K, KX, c, sy⟩ := Y
  obtain ⟨fd, F⟩ := ask_da c (e.da cls) List.mem_cons_self
  have ee : e.da cls = ⟨fun K => He.ga K e.x, e.x, e.q, L2.defArgs e.st, L2.defBody e.st, L2.defScope e.st, [], []⟩ := by unfold En.da; rw [hk]
  rw [ee] at F
  have glo : mg e.x = some (.ref (He.ga K e.x)) := He.glo_ok KX G.T.g (ask_fa c (.glo e.x) (by
    show _ ∈ faOf T cls (e :: r)
    exact fa_old (by simp [faOld, faEn, hk])))
  have eb : EnB e := ab.1
  unfold EnB at eb
  rw [hk] at eb
  rw [hd, glo] at hmg
  cases hmg
  refine law_callM (cl := clsOf cls) (xc := clsOf T.xcs) (m := runD (tab r) e.d) (x := x) (k := 2 * r.length + 1) (fd := fd) KX G.T.g G.T.b G.T.builtins G.T.nolimit hg sy hobj hints (Nat.le_trans hlen hn2) hr (fun base kb nb sb => ?_) (fun s u => ?_) (law ns hlen hbits)
  · have h3 : okAll T cls r = true := (and2 ok).2
    have hen : okEn (tbOf T cls r) e = true := (and2 (and2 ok).1).1
    have tb : TbOk ⟨l.prog, w, K, mg, base, clsOf cls, clsOf T.xcs⟩ (2 * r.length) (tab r) (tbOf T cls r) := facts_of (P := l.prog) (w := w) (base := base) KX G.T.g c (fun e he => List.mem_cons_of_mem _ he) ab.2 h3 og okd oa oc oe os sb
    have z := def_ok tb sb hen F
    rw [hx] at z
    exact z
  · have z := F.bindsA (ps := e.ps) eb s [u] (by rw [hx]; rfl)
    rw [hx] at z
    exact z
end Mp
noncomputable section
namespace Mp
open PySem L2 PySem.Spec PyProof.Rows
/-! ### the same hook over a given list of places -/
def obsL (as : List Addr) (q : Ask) (g : Addr → Option Obj) : AlM := (q.see (He.frG g as), isDct (g sysModules))
def hookL (as : List Addr) (q : Ask) : PySem.W.Hook where
  α := AlM
  obs := fun s => obsL as q s.heap.get?
  val := fun _ => (q.want, true)
  says := fun _ h => ∃ K : PySem.W.Frag, K.In h ∧ q.see K = q.want ∧ ∃ o, h.get? sysModules = some o ∧ o.cls = .type "dict"
  of := fun _ _ e => ⟨_, He.frG_in, congrArg (fun z : AlM => z.1) e, isDct_of (congrArg (fun z : AlM => z.2) e)⟩
  keeps := fun _ _ _ ⟨K, hK, c, o, ho, hc⟩ k => ⟨K, PySem.W.Frag.In.keeps hK k, c, o, k _ _ ho, hc⟩
theorem obsL_eq {as : List Addr} {q : Ask} {g : Addr → Option Obj} {s : Shared} (h : ∀ a, g a = s.heap.get? a) : obsL as q g = (hookL as q).obs s := by
  have e : g = s.heap.get? := funext h
  rw [e]
  rfl
end Mp
namespace Mp
/-! ### plain evaluation -/
@[irreducible] def Rs.wp {α : Type} (r : Rs α) (Q : α → Sto → Prop) : Prop := match r with
  | .ok a S => Q a S
  | _ => False
@[simp] theorem wp_ok {α : Type} {a : α} {S : Sto} {Q : α → Sto → Prop} : (Rs.ok a S).wp Q = Q a S := by unfold Rs.wp; rfl
theorem wp_ex {α : Type} {c : Nat} {fs : List Tv} {S : Sto} {Q : α → Sto → Prop} : (Rs.ex c fs S).wp Q = False := by unfold Rs.wp; rfl
theorem wp_bad {α : Type} {Q : α → Sto → Prop} : (Rs.bad : Rs α).wp Q = False := by unfold Rs.wp; rfl
theorem wp_bnd {α β : Type} {m : M α} {f : α → M β} {S : Sto} {Q : β → Sto → Prop} : (bnd m f S).wp Q = (m S).wp fun a S' => (f a S').wp Q := by
  unfold bnd
  cases m S <;> simp only [Rs.bnd, wp_ok, wp_ex, wp_bad]
@[simp] theorem wp_ret {α : Type} {a : α} {S : Sto} {Q : α → Sto → Prop} : (ret a S).wp Q = Q a S := wp_ok
theorem wp_get {α : Type} {r : Rs α} {Q : α → Sto → Prop} (h : r.wp Q) : ∃ a S, r = .ok a S ∧ Q a S := by
  cases r with
  | ok a S => rw [wp_ok] at h; exact ⟨a, S, rfl, h⟩
  | ex c fs S => rw [wp_ex] at h; exact h.elim
  | bad => rw [wp_bad] at h; exact h.elim
theorem wp_mono {α : Type} {r : Rs α} {Q Q' : α → Sto → Prop} (h : r.wp Q) (i : ∀ a S, Q a S → Q' a S) : r.wp Q' := by
  obtain ⟨a, S, rfl, q⟩ := wp_get h
  rw [wp_ok]
  exact i a S q
theorem wp_calm {α : Type} {m : M α} {S : Sto} {Q : α → Sto → Prop} : (calmM m S).wp Q = (m S).wp Q := by
  unfold calmM
  cases m S <;> simp only [wp_ok, wp_ex, wp_bad]
/-- behind a statement: on, or back with a value -/
structure Po where
  nx : Env → Sto → Prop
  rt : Tv → Sto → Prop
  bk : Env → Sto → Prop := fun _ _ => False
  ct : Env → Sto → Prop := fun _ _ => False
@[irreducible] def Sr.wp (r : Sr) (D : Po) : Prop := match r with
  | .nx e S => D.nx e S
  | .rt t S => D.rt t S
  | .bk e S => D.bk e S
  | .ct e S => D.ct e S
  | _ => False
section
variable {e : Env} {S : Sto} {D : Po}
theorem sw_nx : (Sr.nx e S).wp D = D.nx e S := by unfold Sr.wp; rfl
theorem sw_rt {t : Tv} : (Sr.rt t S).wp D = D.rt t S := by unfold Sr.wp; rfl
theorem sw_bk : (Sr.bk e S).wp D = D.bk e S := by unfold Sr.wp; rfl
theorem sw_ct : (Sr.ct e S).wp D = D.ct e S := by unfold Sr.wp; rfl
theorem sw_ex {c : Nat} {fs : List Tv} : (Sr.ex c fs e S).wp D = False := by unfold Sr.wp; rfl
theorem sw_bad : Sr.bad.wp D = False := by unfold Sr.wp; rfl
end
theorem sr_of {r : Rs Tv} {env : Env} {f : Tv → Sto → Sr} {D : Po} : (srOf r env f).wp D = r.wp fun t S => (f t S).wp D := by
  cases r <;> simp only [srOf, wp_ok, wp_ex, wp_bad, sw_ex, sw_bad]
@[simp] theorem exs_nil {cf : Nat → List Tv → M Tv} {m : Nat} {env : Env} {S : Sto} {D : Po} : (exs cf m [] env S).wp D = D.nx env S := by simp only [exs, sw_nx]
theorem exs_cons {cf : Nat → List Tv → M Tv} {m : Nat} {s : Sx} {r : List Sx} {env : Env} {S : Sto} {D : Po} : (exs cf m (s :: r) env S).wp D = (ex cf m s env S).wp { D with nx := fun e S => (exs cf m r e S).wp D } := by
  simp only [exs]
  cases ex cf m s env S <;> simp only [wp_ok, wp_ex, wp_bad, sw_nx, sw_rt, sw_bk, sw_ct, sw_ex, sw_bad]
@[simp] theorem ex_asg {cf : Nat → List Tv → M Tv} {m : Nat} {tg : Tg} {e : Ex} {env : Env} {S : Sto} {D : Po} : (ex cf m (.asg tg e) env S).wp D = ((ev cf e).v env S).wp fun t S => match setTg tg t env with
    | some e => D.nx e S
    | none => False := by
  simp only [ex, sr_of]
  congr 1
  funext t S
  cases setTg tg t env <;> simp only [wp_ok, wp_ex, wp_bad, sw_nx, sw_rt, sw_bk, sw_ct, sw_ex, sw_bad]
@[simp] theorem ex_drop {cf : Nat → List Tv → M Tv} {m : Nat} {e : Ex} {env : Env} {S : Sto} {D : Po} : (ex cf m (.drop e) env S).wp D = ((ev cf e).v env S).wp fun _ S => D.nx env S := by
  simp only [ex, sr_of, sw_nx, sw_rt]
@[simp] theorem ex_ret {cf : Nat → List Tv → M Tv} {m : Nat} {e : Ex} {env : Env} {S : Sto} {D : Po} : (ex cf m (.ret e) env S).wp D = ((ev cf e).v env S).wp D.rt := by
  simp only [ex, sr_of, sw_nx, sw_rt]
@[simp] theorem ex_if {cf : Nat → List Tv → M Tv} {m : Nat} {c : Ex} {a b : List Sx} {env : Env} {S : Sto} {D : Po} : (ex cf m (.ifS c a b) env S).wp D = ((ev cf c).t env S).wp fun k S => if k = true then (exs cf m a env S).wp D else (exs cf m b env S).wp D := by
  simp only [ex]
  cases (ev cf c).t env S with
  | ok k S' => rw [wp_ok]; cases k <;> rfl
  | _ => simp only [wp_ok, wp_ex, wp_bad, sw_nx, sw_rt, sw_bk, sw_ct, sw_ex, sw_bad]
@[simp] theorem ex_set {cf : Nat → List Tv → M Tv} {m : Nat} {a i e : Ex} {env : Env} {S : Sto} {D : Po} : (ex cf m (.setIx a i e) env S).wp D = ((ev cf e).v env S).wp fun t S => ((ev cf a).v env S).wp fun x S => ((ev cf i).v env S).wp fun j S => match setAt x j t S with
    | some S' => D.nx env S'
    | none => False := by
  simp only [ex, sr_of]
  congr 1; funext t S
  congr 1; funext x S
  congr 1; funext j S
  cases setAt x j t S <;> simp only [wp_ok, wp_ex, wp_bad, sw_nx, sw_rt, sw_bk, sw_ct, sw_ex, sw_bad]
@[simp] theorem ex_pass {cf : Nat → List Tv → M Tv} {m : Nat} {env : Env} {S : Sto} {D : Po} : (ex cf m .pass env S).wp D = D.nx env S := sw_nx
@[simp] theorem ex_brk {cf : Nat → List Tv → M Tv} {m : Nat} {env : Env} {S : Sto} {D : Po} : (ex cf m .brk env S).wp D = D.bk env S := sw_bk
@[simp] theorem ex_cont {cf : Nat → List Tv → M Tv} {m : Nat} {env : Env} {S : Sto} {D : Po} : (ex cf m .cont env S).wp D = D.ct env S := sw_ct
/-- a for, by an invariant: at the turn i -/
theorem ex_for {cf : Nat → List Tv → M Tv} {m : Nat} {tg : Tg} {it : Ix} {b : List Sx} {env : Env} {S : Sto} {D : Po} : (ex cf m (.forS tg it b) env S).wp D = (evI cf it env S).wp fun q S => (forL q.2 tg (exs cf m b) q.1 env S).wp D := by
  simp only [ex]
  cases evI cf it env S <;> simp only [wp_ok, wp_ex, wp_bad, sw_nx, sw_rt, sw_bk, sw_ct, sw_ex, sw_bad]
theorem for_inv {w : List (Nat × List Tv)} {tg : Tg} {body : Env → Sto → Sr} {D : Po} (P : List Tv → Env → Sto → Prop) (hw : ∀ ts e S, P ts e S → stays w S = true)
    (step : ∀ t r env S, P (t :: r) env S → ∃ e, setTg tg t env = some e ∧ (body e S).wp { nx := P r, ct := P r, bk := D.nx, rt := D.rt }) (fin : ∀ env S, P [] env S → D.nx env S) :
    ∀ (ts : List Tv) (env : Env) (S : Sto), P ts env S → (forL w tg body ts env S).wp D
  | [], env, S, h => by
    simp only [forL]
    rw [if_pos (hw _ _ _ h)]
    rw [sw_nx]
    exact fin env S h
  | t :: r, env, S, h => by
    simp only [forL]
    rw [if_pos (hw _ _ _ h)]
    obtain ⟨e, he, hb⟩ := step t r env S h
    rw [he]
    simp only
    cases eb : body e S with
    | nx e' S' => rw [eb, sw_nx] at hb; exact for_inv P hw step fin r e' S' hb
    | ct e' S' => rw [eb, sw_ct] at hb; exact for_inv P hw step fin r e' S' hb
    | bk e' S' => rw [eb, sw_bk] at hb; rw [sw_nx]; exact hb
    | rt t S' => rw [eb, sw_rt] at hb; rw [sw_rt]; exact hb
    | ex c fs e' S' => rw [eb, sw_ex] at hb; exact hb.elim
    | bad => rw [eb, sw_bad] at hb; exact hb.elim
theorem ex_while {cf : Nat → List Tv → M Tv} {m : Nat} {c : Ex} {b : List Sx} {env : Env} {S : Sto} {D : Po} : (ex cf m (.whileS c b) env S).wp D = (whileL (ev cf c).t (exs cf m b) m env S).wp D := rfl
/-- a while, by an invariant with a measure below the fuel -/
theorem while_inv {c : Env → M Bool} {body : Env → Sto → Sr} {D : Po} (P : Nat → Env → Sto → Prop)
    (step : ∀ k env S, P k env S → (c env S).wp fun b S => if b = true then (body env S).wp { nx := fun e S => ∃ k', k' < k ∧ P k' e S, ct := fun e S => ∃ k', k' < k ∧ P k' e S, bk := D.nx, rt := D.rt } else D.nx env S) :
    ∀ (m k : Nat) (env : Env) (S : Sto), k < m → P k env S → (whileL c body m env S).wp D
  | 0, k, env, S, h, _ => by omega
  | m + 1, k, env, S, h, hp => by
    have z := step k env S hp
    simp only [whileL]
    cases ec : c env S with
    | ok b S1 =>
      rw [ec, wp_ok] at z
      cases b with
      | false => simp only [sw_nx]; exact z
      | true =>
        have z : (body env S1).wp { nx := fun e S => ∃ k', k' < k ∧ P k' e S, ct := fun e S => ∃ k', k' < k ∧ P k' e S, bk := D.nx, rt := D.rt } := z
        simp only
        cases eb : body env S1 with
        | nx e' S' => rw [eb, sw_nx] at z; obtain ⟨k', hk, hp'⟩ := z; exact while_inv P step m k' e' S' (by omega) hp'
        | ct e' S' => rw [eb, sw_ct] at z; obtain ⟨k', hk, hp'⟩ := z; exact while_inv P step m k' e' S' (by omega) hp'
        | bk e' S' => rw [eb, sw_bk] at z; simp only [sw_nx]; exact z
        | rt t S' => rw [eb, sw_rt] at z; simp only [sw_rt]; exact z
        | ex c fs e' S' => rw [eb, sw_ex] at z; exact z.elim
        | bad => rw [eb, sw_bad] at z; exact z.elim
    | ex c fs S => rw [ec, wp_ex] at z; exact z.elim
    | bad => rw [ec, wp_bad] at z; exact z.elim
/-- a comprehension that writes nothing: by a function -/
theorem comp_map {w : List (Nat × List Tv)} {tg : Tg} {env : Env} {c : Env → M Bool} {elt : Env → M Tv} {S : Sto} (p : Tv → Bool) (g : Tv → Tv) (hw : stays w S = true) :
    ∀ ts : List Tv, (∀ t ∈ ts, ∃ e, setTg tg t env = some e ∧ c e S = .ok (p t) S ∧ (p t = true → elt e S = .ok (g t) S)) → compL w tg env c elt ts S = .ok ((ts.filter p).map g) S
  | [], _ => by simp only [compL]; rw [if_pos hw]; rfl
  | t :: r, h => by
    obtain ⟨e, he, hc, hg⟩ := h t List.mem_cons_self
    have ih := comp_map p g hw r fun t ht => h t (List.mem_cons_of_mem _ ht)
    simp only [compL]
    rw [if_pos hw, he]
    simp only [bnd, calmM, hc, Rs.bnd]
    cases hp : p t with
    | false =>
      simp only [hp, Bool.false_eq_true, if_false]
      rw [ih, List.filter_cons]
      simp [hp]
    | true =>
      simp only [hp, if_true, bnd, calmM, hg hp, Rs.bnd, ih]
      rw [List.filter_cons]
      simp [hp, ret]
theorem run_wp {cf : Nat → List Tv → M Tv} {d : Df} {as : List Tv} {S : Sto} {Q : Tv → Sto → Prop} (hl : as.length = d.k)
    (h : (exs cf Fu d.body (as.map some ++ List.replicate (d.n - d.k) none) S).wp { nx := fun _ S' => Q .non S', rt := fun t S' => if S'.take S.length = S ∧ t.noCell = true then Q t S else Q t S' }) : (runD cf d as S).wp Q := by
  unfold runD
  rw [if_pos hl]
  cases e : exs cf Fu d.body (as.map some ++ List.replicate (d.n - d.k) none) S with
  | nx e' S' => rw [e, sw_nx] at h; simp only [wp_ok]; exact h
  | rt t S' =>
    rw [e, sw_rt] at h
    have h : if S'.take S.length = S ∧ t.noCell = true then Q t S else Q t S' := h
    simp only
    split at h
    · rename_i hc; rw [if_pos hc, wp_ok]; exact h
    · rename_i hc; rw [if_neg hc, wp_ok]; exact h
  | bk e' S' => rw [e, sw_bk] at h; exact h.elim
  | ct e' S' => rw [e, sw_ct] at h; exact h.elim
  | ex c fs e' S' => rw [e, sw_ex] at h; exact h.elim
  | bad => rw [e, sw_bad] at h; exact h.elim
theorem sr_mono {r : Sr} {D D' : Po} (h : r.wp D) (a : ∀ e S, D.nx e S → D'.nx e S) (b : ∀ t S, D.rt t S → D'.rt t S) (c : ∀ e S, D.bk e S → D'.bk e S) (d : ∀ e S, D.ct e S → D'.ct e S) : r.wp D' := by
  cases r with
  | nx e S => rw [sw_nx] at h ⊢; exact a e S h
  | rt t S => rw [sw_rt] at h ⊢; exact b t S h
  | bk e S => rw [sw_bk] at h ⊢; exact c e S h
  | ct e S => rw [sw_ct] at h ⊢; exact d e S h
  | ex c fs e S => rw [sw_ex] at h; exact h.elim
  | bad => rw [sw_bad] at h; exact h.elim
/-! ### expressions, by their parts -/
section
variable {cf : Nat → List Tv → M Tv} {env : Env} {S : Sto} {Q : Tv → Sto → Prop} {QB : Bool → Sto → Prop} {QL : List Tv → Sto → Prop} {a b c e : Ex} {es : List Ex}
@[simp] theorem w_var {i : Nat} : ((ev cf (.var i)).v env S).wp Q = match env[i]? with
    | some (some t) => Q t S
    | _ => False := by
  show (varM i env S).wp Q = _
  unfold varM
  cases h : env[i]? with
  | none => simp only [wp_bad]
  | some o => cases o <;> simp only [wp_ok, wp_bad]
@[simp] theorem w_int {i : Int} : ((ev cf (.int i)).v env S).wp Q = Q (.int i) S := wp_ok
@[simp] theorem w_str {i : PySem.Str} : ((ev cf (.str i)).v env S).wp Q = Q (.str i) S := wp_ok
@[simp] theorem w_bl {i : Bool} : ((ev cf (.bl i)).v env S).wp Q = Q (.bl i) S := wp_ok
@[simp] theorem w_non : ((ev cf .non).v env S).wp Q = Q .non S := wp_ok
@[simp] theorem w_gl {x : PySem.Str} {t : Tv} : ((ev cf (.gl x t)).v env S).wp Q = Q t S := wp_ok
@[simp] theorem w_bin {o : Bo} : ((ev cf (.bin o a b)).v env S).wp Q = ((ev cf a).v env S).wp fun x S => ((ev cf b).v env S).wp fun y S => (opt (binV o S x y) S).wp Q := by
  show (bnd _ _ S).wp Q = _
  simp only [wp_bnd]
@[simp] theorem w_neg : ((ev cf (.neg a)).v env S).wp Q = ((ev cf a).v env S).wp fun x S => match x with
    | .int i => Q (.int (-i)) S
    | _ => False := by
  show (bnd _ _ S).wp Q = _
  simp only [wp_bnd]
  congr 1; funext x S
  cases x <;> first | rfl | simp only [wp_ok, wp_ex, wp_bad, sw_nx, sw_rt, sw_bk, sw_ct, sw_ex, sw_bad]
@[simp] theorem t_cmp {o : Co} : ((ev cf (.cmp o a b)).t env S).wp QB = ((ev cf a).v env S).wp fun x S => ((ev cf b).v env S).wp fun y S => (opt (cmpV o S x y) S).wp QB := by
  show (bnd _ _ S).wp QB = _
  simp only [wp_bnd]
@[simp] theorem w_cmp {o : Co} : ((ev cf (.cmp o a b)).v env S).wp Q = ((ev cf a).v env S).wp fun x S => ((ev cf b).v env S).wp fun y S => (opt (cmpV o S x y) S).wp fun k S => Q (.bl k) S := by
  show (bnd (bnd _ _) _ S).wp Q = _
  simp only [wp_bnd, wp_ret]
@[simp] theorem t_chain {o p : Co} : ((ev cf (.chain o p a b c)).t env S).wp QB = ((ev cf a).v env S).wp fun x S => ((ev cf b).v env S).wp fun y S => (opt (cmpV o S x y) S).wp fun k S => if k = true then ((ev cf c).v env S).wp fun z S => (opt (cmpV p S y z) S).wp QB else QB false S := by
  show (bnd _ _ S).wp QB = _
  simp only [wp_bnd]
  congr 1; funext x S
  congr 1; funext y S
  congr 1; funext k S
  cases k
  · simp only [Bool.false_eq_true, if_false, wp_ret]
  · simp only [if_true, wp_bnd]
@[simp] theorem t_isC {ng : Bool} {cc : Option Bool} : ((ev cf (.isC ng a cc)).t env S).wp QB = ((ev cf a).v env S).wp fun x S => (opt ((isCV cc x).map fun k => if ng then !k else k) S).wp QB := by
  show (bnd _ _ S).wp QB = _
  simp only [wp_bnd]
@[simp] theorem w_isi {k : Kd} : ((ev cf (.isi a k)).v env S).wp Q = ((ev cf a).v env S).wp fun x S => (opt (isiV k S x) S).wp fun k S => Q (.bl k) S := by
  show (bnd (bnd _ _) _ S).wp Q = _
  simp only [wp_bnd, wp_ret]
@[simp] theorem t_isi {k : Kd} : ((ev cf (.isi a k)).t env S).wp QB = ((ev cf a).v env S).wp fun x S => (opt (isiV k S x) S).wp QB := by
  show (bnd _ _ S).wp QB = _
  simp only [wp_bnd]
@[simp] theorem t_bop1 {an : Bool} : ((ev cf (.bop an [])).t env S).wp QB = QB an S := wp_ok
@[simp] theorem t_bop {an : Bool} : ((ev cf (.bop an (e :: es))).t env S).wp QB = ((ev cf e).t env S).wp fun k S => if k = an then ((ev cf (.bop an es)).t env S).wp QB else QB k S := by
  show (bnd _ _ S).wp QB = _
  simp only [wp_bnd]
  congr 1; funext k S
  split <;> first | rfl | simp only [wp_ok, wp_ex, wp_bad, sw_nx, sw_rt, sw_bk, sw_ct, sw_ex, sw_bad]
@[simp] theorem w_bop1 {an : Bool} : ((ev cf (.bop an [e])).v env S).wp Q = ((ev cf e).v env S).wp Q := rfl
@[simp] theorem w_bop {an : Bool} {e2 : Ex} : ((ev cf (.bop an (e :: e2 :: es))).v env S).wp Q = ((ev cf e).v env S).wp fun x S => (truthM x S).wp fun k S => if k = an then ((ev cf (.bop an (e2 :: es))).v env S).wp Q else Q x S := by
  show (bnd _ _ S).wp Q = _
  simp only [wp_bnd]
  congr 1; funext x S
  congr 1; funext k S
  split <;> first | rfl | simp only [wp_ok, wp_ex, wp_bad, sw_nx, sw_rt, sw_bk, sw_ct, sw_ex, sw_bad]
@[simp] theorem t_nt : ((ev cf (.nt a)).t env S).wp QB = ((ev cf a).t env S).wp fun k S => QB (!k) S := by
  show (bnd _ _ S).wp QB = _
  simp only [wp_bnd, wp_ret]
@[simp] theorem w_nt : ((ev cf (.nt a)).v env S).wp Q = ((ev cf a).v env S).wp fun x S => (truthM x S).wp fun k S => Q (.bl (!k)) S := by
  show (bnd _ _ S).wp Q = _
  simp only [wp_bnd, wp_ret]
@[simp] theorem w_ite : ((ev cf (.ite c a b)).v env S).wp Q = ((ev cf c).t env S).wp fun k S => if k = true then ((ev cf a).v env S).wp Q else ((ev cf b).v env S).wp Q := by
  show (bnd _ _ S).wp Q = _
  simp only [wp_bnd]
  congr 1; funext k S
  cases k <;> first | rfl | simp only [wp_ok, wp_ex, wp_bad, sw_nx, sw_rt, sw_bk, sw_ct, sw_ex, sw_bad]
@[simp] theorem w_nil : (evs cf [] env S).wp QL = QL [] S := wp_ok
@[simp] theorem w_cons : (evs cf (e :: es) env S).wp QL = ((ev cf e).v env S).wp fun x S => (evs cf es env S).wp fun xs S => QL (x :: xs) S := by
  show (bnd _ _ S).wp QL = _
  simp only [wp_bnd, wp_ret]
@[simp] theorem w_tup : ((ev cf (.tup es)).v env S).wp Q = (evs cf es env S).wp fun xs S => if xs.length ≤ lim then Q (.tup xs) S else False := by
  show (bnd _ _ S).wp Q = _
  simp only [wp_bnd]
  congr 1; funext xs S
  split <;> first | rfl | simp only [wp_ok, wp_ex, wp_bad, sw_nx, sw_rt, sw_bk, sw_ct, sw_ex, sw_bad]
@[simp] theorem w_fz {l : Lx} : ((ev cf (.fz l)).v env S).wp Q = (evL cf l env S).wp fun xs S => Q (.lst xs) S := by
  show (bnd _ _ S).wp Q = _
  simp only [wp_bnd, wp_ret]
@[simp] theorem w_mu {l : Lx} : ((ev cf (.mu l)).v env S).wp Q = (evL cf l env S).wp fun xs S => Q (.cell S.length) (S ++ [.lst xs]) := by
  show (bnd _ _ S).wp Q = _
  simp only [wp_bnd, alloc, wp_ok]
@[simp] theorem w_disp : (evL cf (.disp es) env S).wp QL = (evs cf es env S).wp fun xs S => if xs.length ≤ lim then QL xs S else False := by
  show (bnd _ _ S).wp QL = _
  simp only [wp_bnd]
  congr 1; funext xs S
  split <;> first | rfl | simp only [wp_ok, wp_ex, wp_bad, sw_nx, sw_rt, sw_bk, sw_ct, sw_ex, sw_bad]
@[simp] theorem w_comp {own : List Nat} {tg : Tg} {it : Ix} : (evL cf (.comp own e tg it c) env S).wp QL = (evI cf it env S).wp fun q S => if q.1.length ≤ lim then (compL q.2 tg (wipeE env own) (ev cf c).t (ev cf e).v q.1 S).wp QL else False := by
  show (bnd _ _ S).wp QL = _
  simp only [wp_bnd]
  congr 1; funext q S
  split <;> first | rfl | simp only [wp_ok, wp_ex, wp_bad, sw_nx, sw_rt, sw_bk, sw_ct, sw_ex, sw_bad]
@[simp] theorem w_ofSeq : (evL cf (.ofSeq a) env S).wp QL = ((ev cf a).v env S).wp fun x S => (opt (seqOf S x) S).wp QL := by
  show (bnd _ _ S).wp QL = _
  simp only [wp_bnd]
@[simp] theorem w_call {f : Nat} : ((ev cf (.call f es)).v env S).wp Q = (evs cf es env S).wp fun xs S => (cf f xs S).wp Q := by
  show (bnd _ _ S).wp Q = _
  simp only [wp_bnd]
@[simp] theorem w_prim {p : Pr} : ((ev cf (.prim p es)).v env S).wp Q = (evs cf es env S).wp fun xs S => (opt (primV p S xs) S).wp Q := by
  show (bnd _ _ S).wp Q = _
  simp only [wp_bnd]
@[simp] theorem w_ix : ((ev cf (.ix a b)).v env S).wp Q = ((ev cf a).v env S).wp fun x S => ((ev cf b).v env S).wp fun j S => (opt (ixV S x j) S).wp Q := by
  show (bnd _ _ S).wp Q = _
  simp only [wp_bnd]
@[simp] theorem w_popAt : ((ev cf (.popAt a b)).v env S).wp Q = ((ev cf a).v env S).wp fun x S => (needL x S).wp fun _ S => ((ev cf b).v env S).wp fun j S => (popAtL x j S).wp Q := by
  show (bnd _ _ S).wp Q = _
  simp only [wp_bnd]
@[simp] theorem w_app : ((ev cf (.app a b)).v env S).wp Q = ((ev cf a).v env S).wp fun x S => (needL x S).wp fun _ S => ((ev cf b).v env S).wp fun y S => (appL x y S).wp Q := by
  show (bnd _ _ S).wp Q = _
  simp only [wp_bnd]
@[simp] theorem i_seq {QI : List Tv × List (Nat × List Tv) → Sto → Prop} : (evI cf (.seq a) env S).wp QI = ((ev cf a).v env S).wp fun x S => (opt (srcOf S x) S).wp QI := by
  show (bnd _ _ S).wp QI = _
  simp only [wp_bnd]
@[simp] theorem i_rng {QI : List Tv × List (Nat × List Tv) → Sto → Prop} : (evI cf (.rng a) env S).wp QI = ((ev cf a).v env S).wp fun x S => match x with
    | .int i => if -1000000 < i ∧ i < 1000000 then QI (rngT 0 i.toNat, []) S else False
    | _ => False := by
  show (bnd _ _ S).wp QI = _
  simp only [wp_bnd]
  congr 1; funext x S
  cases x with
  | int i => simp only; split <;> simp only [wp_ok, wp_bad]
  | _ => simp only [wp_bad]
@[simp] theorem i_zip {QI : List Tv × List (Nat × List Tv) → Sto → Prop} : (evI cf (.zip a b) env S).wp QI = ((ev cf a).v env S).wp fun x S => ((ev cf b).v env S).wp fun y S => match srcOf S x, srcOf S y with
    | some (xs, u), some (ys, v) => QI (zipT xs ys, u ++ v) S
    | _, _ => False := by
  show (bnd _ _ S).wp QI = _
  simp only [wp_bnd]
  congr 1; funext x S
  congr 1; funext y S
  cases srcOf S x <;> cases srcOf S y <;> first | rfl | simp only [wp_ok, wp_ex, wp_bad, sw_nx, sw_rt, sw_bk, sw_ct, sw_ex, sw_bad]
@[simp] theorem i_enum {QI : List Tv × List (Nat × List Tv) → Sto → Prop} : (evI cf (.enum a) env S).wp QI = ((ev cf a).v env S).wp fun x S => match srcOf S x with
    | some (xs, u) => QI (enumT 0 xs, u) S
    | none => False := by
  show (bnd _ _ S).wp QI = _
  simp only [wp_bnd]
  congr 1; funext x S
  cases srcOf S x <;> first | rfl | simp only [wp_ok, wp_ex, wp_bad, sw_nx, sw_rt, sw_bk, sw_ct, sw_ex, sw_bad]
@[simp] theorem t_call {f : Nat} : ((ev cf (.call f es)).t env S).wp QB = ((ev cf (.call f es)).v env S).wp fun x S => (truthM x S).wp QB := wp_bnd (m := (ev cf (.call f es)).v env)
@[simp] theorem t_prim {p : Pr} : ((ev cf (.prim p es)).t env S).wp QB = ((ev cf (.prim p es)).v env S).wp fun x S => (truthM x S).wp QB := wp_bnd (m := (ev cf (.prim p es)).v env)
@[simp] theorem opt_some {α : Type} {t : α} {Q : α → Sto → Prop} : (opt (some t) S).wp Q = Q t S := wp_ok
theorem setAt_lst {n k : Nat} {ts : List Tv} {t : Tv} {i : Int} (h : S[n]? = some (.lst ts)) (hi : L2.ixN ts.length i = some k) : setAt (.cell n) (.int i) t S = some (S.set n (.lst (ts.set k t))) := by
  simp only [setAt, h, hi, Option.map_some]
theorem ix_lst {n : Nat} {ts : List Tv} {i : Int} (h : S[n]? = some (.lst ts)) : ixV S (.cell n) (.int i) = L2.atI ts i := by simp only [ixV, seqOf, h, Option.bind_some]
@[simp] theorem t_nop : ((ev cf .nop).t env S).wp QB = QB true S := wp_ok
@[simp] theorem w_sl0 {hi : Int} : ((ev cf (.sl a .nop (.int hi))).v env S).wp Q = ((ev cf a).v env S).wp fun x S => (opt (slV S x none (some hi)) S).wp Q := by
  show (bnd _ _ S).wp Q = _
  simp only [wp_bnd]
  congr 1; funext x S
  show ((ret none S).wp _) = _
  rw [wp_ret]
  show (((bnd (fun S => Rs.ok (Tv.int hi) S) fun x => match x with
    | .int i => ret (some i)
    | _ => bad) S).wp _) = _
  rw [wp_bnd, wp_ok, wp_ret]
end
end Mp
namespace Mp
theorem run_same {cf : Nat → List Tv → M Tv} {d : Df} {as : List Tv} {S : Sto} {Q : Tv → Sto → Prop} (hl : as.length = d.k)
    (h : (exs cf Fu d.body (as.map some ++ List.replicate (d.n - d.k) none) S).wp { nx := fun _ S' => Q .non S', rt := fun t S' => S'.length = S.length ∧ Q t S' }) : (runD cf d as S).wp Q := by
  refine run_wp hl (sr_mono h (fun _ _ q => q) (fun t S' ⟨h1, h2⟩ => ?_) (fun _ _ q => q) fun _ _ q => q)
  show if S'.take S.length = S ∧ t.noCell = true then Q t S else Q t S'
  split
  · rename_i hc
    have e : S' = S := by rw [← hc.1, ← h1, List.take_length]
    rw [← e]
    exact h2
  · exact h2
/-- a def that leaves the store as it is -/
theorem run_pure {cf : Nat → List Tv → M Tv} {d : Df} {as : List Tv} {S : Sto} {Q : Tv → Prop} (hl : as.length = d.k)
    (h : (exs cf Fu d.body (as.map some ++ List.replicate (d.n - d.k) none) S).wp { nx := fun _ _ => False, rt := fun t S' => S' = S ∧ Q t }) : ∃ t, runD cf d as S = .ok t S ∧ Q t := by
  have z : (runD cf d as S).wp fun t S' => S' = S ∧ Q t :=
    run_same hl (sr_mono h (fun _ _ q => q.elim) (fun t S' ⟨h1, h2⟩ => ⟨by rw [h1], h1, h2⟩) (fun _ _ q => q) fun _ _ q => q)
  obtain ⟨t, S', e, rfl, q⟩ := wp_get z
  exact ⟨t, e, q⟩
/-! ### the deck -/
def xDraw : Df := ⟨5, 2,
  [
    .ifS (.cmp .ne (.ix (.var 0) (.int 0)) (.fz (.disp [])))
      [
        .asg (.v 4) (.ix (.ix (.var 0) (.int 0)) (.int 0)),
        .setIx (.ix (.var 0) (.int 0)) (.int 0) (.bin .fdiv (.var 4) (.var 1)),
        .ifS (.cmp .eq (.ix (.ix (.var 0) (.int 0)) (.int 0)) (.int 0))
          [
            .drop (.popAt (.ix (.var 0) (.int 0)) (.int 0))]
          [],
        .ret (.bin .mod (.prim .int [(.var 4)]) (.var 1))]
      [],
    .setIx (.var 0) (.int 2) (.bin .add (.ix (.var 0) (.int 2)) (.int 1)),
    .asg (.v 2) (.ix (.ix (.var 0) (.int 1)) (.bin .mod (.prim .int [(.ix (.var 0) (.int 2))]) (.prim .len [(.ix (.var 0) (.int 1))]))),
    .asg (.v 3) (.bin .mod (.prim .int [(.bin .add (.bin .mod (.prim .int [(.var 2)]) (.int 4294967291)) (.bin .mul (.int 2654435761) (.ix (.var 0) (.int 2))))]) (.int 4294967291)),
    .asg (.v 3) (.bin .mod (.prim .int [(.bin .add (.bin .mul (.var 3) (.var 3)) (.bin .mul (.int 40503) (.ix (.var 0) (.int 2))))]) (.int 4294967279)),
    .ret (.bin .mod (.bin .fdiv (.bin .mod (.prim .int [(.bin .mul (.var 3) (.var 3))]) (.int 4294967231)) (.int 4096)) (.var 1))]⟩
/-- the deck at the places n0, n1: what is left of great numbers, the numbers, how often it was asked (at most b) -/
structure Deck (S : Sto) (n0 n1 b : Nat) : Prop where
  ex : ∃ (gs cs : List Int) (c : Int), S[n0]? = some (.lst [.cell n1, .lst (cs.map Tv.int), .int c]) ∧ S[n1]? = some (.lst (gs.map Tv.int)) ∧ cs ≠ [] ∧ cs.length ≤ 64 ∧ 0 ≤ c ∧ c ≤ b
  ne : n0 ≠ n1
/-- all places but these stand -/
structure Oth (n0 n1 : Nat) (S S' : Sto) : Prop where
  len : S'.length = S.length
  at' : ∀ n, n ≠ n0 → n ≠ n1 → S'[n]? = S[n]?
theorem at0 {α : Type} {x : α} {xs : List α} : L2.atI (x :: xs) 0 = some x := L2.atI_nat (j := 0) rfl
theorem at1 {α : Type} {x y : α} {xs : List α} : L2.atI (x :: y :: xs) 1 = some y := L2.atI_nat (j := 1) rfl
theorem at2 {α : Type} {x y z : α} {xs : List α} : L2.atI (x :: y :: z :: xs) 2 = some z := L2.atI_nat (j := 2) rfl
theorem lim_0 : (0 : Nat) ≤ lim := Nat.zero_le _
theorem dOks_ints : ∀ (k : Nat) (gs : List Int), Tv.dOks k (gs.map Tv.int) = true
  | _, [] => rfl
  | k, g :: r => by
    simp only [List.map_cons, Tv.dOks, dOks_ints k r, Bool.and_true]
    cases k <;> rfl
theorem ne_nil {n1 : Nat} {S : Sto} {gs : List Int} (h1 : S[n1]? = some (.lst (gs.map Tv.int))) : cmpV .ne S (.cell n1) (.lst []) = some (!gs.isEmpty) := by
  have d := dOks_ints 15 gs
  cases gs with
  | nil => simp [cmpV, eqS, eqS0, thaw, h1, Tv.dOk, Tv.dOks, Tv.eqb, Tv.eqbs]
  | cons g r =>
    simp only [List.map_cons] at d h1
    simp [cmpV, eqS, eqS0, thaw, h1, Tv.dOk, Tv.dOks, Tv.eqb, Tv.eqbs]
    exact (by simpa [Tv.dOks] using d : _ ∧ Tv.dOks 15 (r.map Tv.int) = true).2
theorem eq_int {S : Sto} {i j : Int} : cmpV .eq S (.int i) (.int j) = some (i == j) := by
  simp [cmpV, eqS, eqS0, thaw, Tv.dOk, Tv.eqb]
theorem mod_int {S : Sto} {i j : Int} (h : 0 < j) : binV .mod S (.int i) (.int j) = some (.int (i % j)) := by simp only [binV]; rw [if_pos h]
theorem fdiv_int {S : Sto} {i j : Int} (h : 0 < j) (h2 : j.natAbs.log2 < 9000) : binV .fdiv S (.int i) (.int j) = some (.int (i / j)) := by simp only [binV]; rw [if_pos ⟨h, h2⟩]
theorem add_int {S : Sto} {i j : Int} : binV .add S (.int i) (.int j) = some (.int (i + j)) := rfl
theorem mul_int {S : Sto} {i j : Int} (h : i.natAbs.log2 + j.natAbs.log2 < 1000000) : binV .mul S (.int i) (.int j) = some (.int (i * j)) := by simp only [binV, mulV]; rw [if_pos h]
theorem int_int {S : Sto} {i : Int} : primV .int S [.int i] = some (.int i) := rfl
theorem need_at {n : Nat} {ts : List Tv} {S : Sto} {Q : Nat → Sto → Prop} (h : S[n]? = some (.lst ts)) : (needL (.cell n) S).wp Q = Q n S := by
  simp only [needL, h, wp_ok]
theorem popAt0 {n : Nat} {t : Tv} {ts : List Tv} {S : Sto} {Q : Tv → Sto → Prop} (h : S[n]? = some (.lst (t :: ts))) : (popAtL (.cell n) (.int 0) S).wp Q = Q t (S.set n (.lst ts)) := by
  have e : popAtL (.cell n) (.int 0) S = .ok t (S.set n (.lst ts)) := by
    simp only [popAtL, h]
    rfl
  rw [e, wp_ok]
theorem set_at {S : Sto} {n : Nat} {o u : Ob} (h : S[n]? = some o) : (S.set n u)[n]? = some u := List.getElem?_set_self (List.getElem?_eq_some_iff.mp h).1
theorem set_ne {S : Sto} {n m : Nat} {u : Ob} (h : n ≠ m) : (S.set m u)[n]? = S[n]? := List.getElem?_set_ne (Ne.symm h)
theorem draw_ok {cf : Nat → List Tv → M Tv} {S : Sto} {n0 n1 b : Nat} {many : Int} (h : Deck S n0 n1 b) (hm : 0 < many) (hm2 : many.natAbs.log2 < 9000) (hb : b < 1000000) :
    (runD cf xDraw [.cell n0, .int many] S).wp fun t S' => ∃ v : Int, t = .int v ∧ 0 ≤ v ∧ v < many ∧ Deck S' n0 n1 (b + 1) ∧ Oth n0 n1 S S' := by
  obtain ⟨⟨gs, cs, c, h0, h1, hc, hl, c0, cb⟩, hn⟩ := h
  refine run_same rfl ?_
  show (exs cf Fu xDraw.body [some (.cell n0), some (.int many), none, none, none] S).wp _
  unfold xDraw
  rw [exs_cons]
  simp only [ex_if, t_cmp, w_ix, w_var, List.getElem?_cons_zero, w_int, ix_lst h0, at0, opt_some, w_fz, w_disp, w_nil, List.length_nil, lim_0, if_true, ne_nil h1]
  cases gs with
  | cons g r =>
    simp only [List.isEmpty_cons, Bool.not_false, if_true]
    rw [exs_cons]
    simp only [ex_asg, w_ix, w_var, List.getElem?_cons_zero, w_int, ix_lst h0, at0, opt_some, ix_lst h1, List.map_cons, setTg, List.set_cons_zero, List.set_cons_succ]
    rw [exs_cons]
    simp only [ex_set, w_bin, w_ix, w_var, List.getElem?_cons_zero, List.getElem?_cons_succ, w_int, ix_lst h0, at0, opt_some]
    have e2 : setAt (.cell n1) (.int 0) (.int (g / many)) S = some (S.set n1 (.lst ((Tv.int g :: r.map Tv.int).set 0 (.int (g / many))))) := setAt_lst (by rw [h1]; rfl) (by simp [L2.ixN])
    simp only [fdiv_int hm hm2, opt_some, ix_lst h0, at0, e2, List.set_cons_zero]
    have h0' : (S.set n1 (.lst (Tv.int (g / many) :: r.map Tv.int)))[n0]? = some (.lst [.cell n1, .lst (cs.map Tv.int), .int c]) := by rw [set_ne hn]; exact h0
    have h1' : (S.set n1 (.lst (Tv.int (g / many) :: r.map Tv.int)))[n1]? = some (.lst (Tv.int (g / many) :: r.map Tv.int)) := set_at h1
    generalize hS1 : S.set n1 (.lst (Tv.int (g / many) :: r.map Tv.int)) = S1 at h0' h1'
    have o1 : Oth n0 n1 S S1 := by subst hS1; exact ⟨List.length_set, fun n _ h2 => set_ne h2⟩
    rw [exs_cons]
    simp only [ex_if, t_cmp, w_ix, w_var, List.getElem?_cons_zero, w_int, ix_lst h0', at0, opt_some, ix_lst h1', eq_int]
    have done : ∀ (F : Env → Sto → Prop) S2, S2.length = S.length → Deck S2 n0 n1 (b + 1) → Oth n0 n1 S S2 → (exs cf Fu [.ret (.bin .mod (.prim .int [(.var 4)]) (.var 1))] [some (.cell n0), some (.int many), none, none, some (.int g)] S2).wp
        { nx := F, rt := fun t S' => S'.length = S.length ∧ ∃ v : Int, t = .int v ∧ 0 ≤ v ∧ v < many ∧ Deck S' n0 n1 (b + 1) ∧ Oth n0 n1 S S' } := by
      intro F S2 l2 d2 o2
      rw [exs_cons]
      simp only [ex_ret, w_bin, w_prim, w_cons, w_nil, w_var, List.getElem?_cons_zero, List.getElem?_cons_succ, int_int, opt_some, mod_int hm]
      exact ⟨l2, _, rfl, Int.emod_nonneg _ (by omega), Int.emod_lt_of_pos _ hm, d2, o2⟩
    have dk1 : Deck S1 n0 n1 (b + 1) := ⟨⟨(g / many) :: r, cs, c, h0', h1', hc, hl, c0, by omega⟩, hn⟩
    by_cases hz : (g / many == 0) = true
    · rw [if_pos hz, exs_cons]
      simp only [ex_drop, w_popAt, w_ix, w_var, List.getElem?_cons_zero, w_int, ix_lst h0', at0, opt_some, need_at h1', popAt0 h1', exs_nil]
      refine done _ _ (by rw [List.length_set]; exact o1.len) ⟨⟨r, cs, c, by rw [set_ne hn]; exact h0', set_at h1', hc, hl, c0, by omega⟩, hn⟩ ⟨by rw [List.length_set]; exact o1.len, fun n a1 a2 => by rw [set_ne a2]; exact o1.at' n a1 a2⟩
    · rw [if_neg hz]
      simp only [exs_nil]
      exact done _ S1 o1.len dk1 o1
  | nil =>
    simp only [List.isEmpty_nil, Bool.not_true, Bool.false_eq_true, if_false, exs_nil]
    rw [exs_cons]
    have e2 : setAt (.cell n0) (.int 2) (.int (c + 1)) S = some (S.set n0 (.lst [.cell n1, .lst (cs.map Tv.int), .int (c + 1)])) := setAt_lst (i := 2) (k := 2) h0 (by simp [L2.ixN])
    simp only [ex_set, w_bin, w_ix, w_var, List.getElem?_cons_zero, w_int, ix_lst h0, at2, opt_some, add_int, e2]
    have h0' : (S.set n0 (.lst [.cell n1, .lst (cs.map Tv.int), .int (c + 1)]))[n0]? = some (.lst [.cell n1, .lst (cs.map Tv.int), .int (c + 1)]) := set_at h0
    have h1' : (S.set n0 (.lst [.cell n1, .lst (cs.map Tv.int), .int (c + 1)]))[n1]? = some (.lst (([] : List Int).map Tv.int)) := by rw [set_ne (Ne.symm hn)]; exact h1
    generalize hS1 : S.set n0 (.lst [.cell n1, .lst (cs.map Tv.int), .int (c + 1)]) = S1 at h0' h1'
    have o1 : Oth n0 n1 S S1 := by subst hS1; exact ⟨List.length_set, fun n h1 _ => set_ne h1⟩
    have dk1 : Deck S1 n0 n1 (b + 1) := ⟨⟨[], cs, c + 1, h0', h1', hc, hl, by omega, by omega⟩, hn⟩
    have hcl : 0 < cs.length := List.length_pos_iff.mpr hc
    have hcl' : (0 : Int) < (cs.map Tv.int).length := by rw [List.length_map]; omega
    obtain ⟨x, hx⟩ : ∃ x, L2.atI (cs.map Tv.int) ((c + 1) % (cs.map Tv.int).length) = some (.int x) := by
      have q1 := Int.emod_nonneg (c + 1) (by omega : ((cs.map Tv.int).length : Int) ≠ 0)
      have q2 := Int.emod_lt_of_pos (c + 1) hcl'
      obtain ⟨j, hj⟩ := Int.eq_ofNat_of_zero_le q1
      rw [hj] at q2 ⊢
      have hj2 : j < cs.length := by rw [List.length_map] at q2; omega
      exact ⟨cs[j], L2.atI_nat (by simp [hj2])⟩
    rw [exs_cons]
    have ixl : ∀ j : Int, ixV S1 (.lst (cs.map Tv.int)) (.int j) = L2.atI (cs.map Tv.int) j := fun j => rfl
    have lenl : primV .len S1 [.lst (cs.map Tv.int)] = some (.int (cs.map Tv.int).length) := rfl
    simp only [ex_asg, w_bin, w_ix, w_prim, w_cons, w_nil, w_var, List.getElem?_cons_zero, w_int, ix_lst h0', at1, at2, opt_some, int_int, lenl, mod_int hcl', ixl, hx, setTg, List.set_cons_zero, List.set_cons_succ]
    rw [exs_cons]
    have hb2 : ∀ y : Int, 0 ≤ y → y < 4294967291 → y.natAbs.log2 ≤ 40 := fun y y0 y1 => by
      have h1 : y.natAbs < 4294967296 := by omega
      by_cases hz : y.natAbs = 0
      · rw [hz]; decide
      · have h2 : y.natAbs.log2 < 33 := (Nat.log2_lt hz).mpr (Nat.lt_of_lt_of_le h1 (by decide))
        omega
    have hc2 : (c + 1).natAbs.log2 ≤ 40 := hb2 _ (by omega) (by omega)
    have m1 : ∀ S, binV .mul S (.int 2654435761) (.int (c + 1)) = some (.int (2654435761 * (c + 1))) := fun S => mul_int (by
      have : (2654435761 : Int).natAbs.log2 ≤ 40 := by decide
      omega)
    have m2 : ∀ S, binV .mul S (.int 40503) (.int (c + 1)) = some (.int (40503 * (c + 1))) := fun S => mul_int (by
      have : (40503 : Int).natAbs.log2 ≤ 40 := by decide
      omega)
    have p1 : ∀ S i, binV .mod S (.int i) (.int 4294967291) = some (.int (i % 4294967291)) := fun S i => mod_int (by decide)
    have p2 : ∀ S i, binV .mod S (.int i) (.int 4294967279) = some (.int (i % 4294967279)) := fun S i => mod_int (by decide)
    have p3 : ∀ S i, binV .mod S (.int i) (.int 4294967231) = some (.int (i % 4294967231)) := fun S i => mod_int (by decide)
    have p4 : ∀ S i, binV .fdiv S (.int i) (.int 4096) = some (.int (i / 4096)) := fun S i => fdiv_int (by decide) (by decide)
    simp only [ex_asg, w_bin, w_ix, w_prim, w_cons, w_nil, w_var, List.getElem?_cons_zero, List.getElem?_cons_succ, w_int, ix_lst h0', at2, opt_some, int_int, p1, m1, add_int, setTg, List.set_cons_zero, List.set_cons_succ]
    generalize hy : (x % 4294967291 + 2654435761 * (c + 1)) % 4294967291 = y
    have y0 : 0 ≤ y ∧ y < 4294967291 := by subst hy; exact ⟨Int.emod_nonneg _ (by decide), Int.emod_lt_of_pos _ (by decide)⟩
    have m3 : ∀ S, binV .mul S (.int y) (.int y) = some (.int (y * y)) := fun S => mul_int (by
      have := hb2 y y0.1 y0.2
      omega)
    rw [exs_cons]
    simp only [ex_asg, w_bin, w_ix, w_prim, w_cons, w_nil, w_var, List.getElem?_cons_zero, List.getElem?_cons_succ, w_int, ix_lst h0', at2, opt_some, int_int, p2, m2, m3, add_int, setTg, List.set_cons_zero, List.set_cons_succ]
    generalize hz : (y * y + 40503 * (c + 1)) % 4294967279 = z
    have z0 : 0 ≤ z ∧ z < 4294967279 := by subst hz; exact ⟨Int.emod_nonneg _ (by decide), Int.emod_lt_of_pos _ (by decide)⟩
    have m4 : ∀ S, binV .mul S (.int z) (.int z) = some (.int (z * z)) := fun S => mul_int (by
      have := hb2 z z0.1 (by omega)
      omega)
    rw [exs_cons]
    simp only [ex_ret, w_bin, w_ix, w_prim, w_cons, w_nil, w_var, List.getElem?_cons_zero, List.getElem?_cons_succ, w_int, opt_some, int_int, p3, p4, m4, mod_int hm]
    exact ⟨o1.len, _, rfl, Int.emod_nonneg _ (by omega), Int.emod_lt_of_pos _ hm, dk1, o1⟩
end Mp
namespace Mp
/-! ### the greatest common divisor -/
def xDivisor : Df := ⟨4, 1,
  [
    .asg (.v 1) (.int 0),
    .forS (.v 2) (.seq (.var 0))
      [
        .asg (.v 3) (.prim .abs [(.var 2)]),
        .whileS (.cmp .gt (.var 3) (.int 0))
          [
            .asg (.tup [(.v 3), (.v 1)]) (.tup [(.bin .mod (.var 1) (.var 3)), (.var 3)])]],
    .ret (.var 1)]⟩
/-- the divisor of a row, from f on -/
def gcdF (f : Nat) : List Int → Nat
  | [] => f
  | n :: r => gcdF (Nat.gcd n.natAbs f) r
/-- turns that are left -/
def gmu (o f : Nat) : Nat := if o = 0 then 0 else (o * f).log2 + if o < f then 1 else 2
theorem gmu_step {o f : Nat} (h : 0 < o) : gmu (f % o) o < gmu o f := by
  unfold gmu
  rw [if_neg (show ¬ o = 0 by omega)]
  by_cases hz : f % o = 0
  · rw [if_pos hz]
    split <;> omega
  · rw [if_neg hz]
    have hlt : f % o < o := Nat.mod_lt _ h
    rw [if_pos hlt]
    by_cases hf : o < f
    · rw [if_pos hf]
      have h1 : 2 * (f % o) ≤ f := by
        have := Nat.div_add_mod f o
        have hq : 1 ≤ f / o := Nat.div_pos (by omega) h
        have : o * 1 ≤ o * (f / o) := Nat.mul_le_mul_left o hq
        omega
      have h2 : 2 * ((f % o) * o) ≤ o * f := by
        have := Nat.mul_le_mul_left o h1
        calc 2 * ((f % o) * o) = o * (2 * (f % o)) := by rw [Nat.mul_comm (f % o) o, Nat.mul_left_comm]
          _ ≤ o * f := this
      have hp : (f % o) * o ≠ 0 := Nat.mul_ne_zero hz (by omega)
      have h3 : ((f % o) * o).log2 + 1 ≤ (o * f).log2 := by
        have : (2 * ((f % o) * o)).log2 = ((f % o) * o).log2 + 1 := by rw [Nat.log2_two_mul hp]
        rw [← this]
        exact (Nat.le_log2 (by omega)).mpr (Nat.le_trans (Nat.log2_self_le (by omega)) h2)
      omega
    · rw [if_neg hf]
      have e : f % o = f := by
        by_cases he : f = o
        · subst he; rw [Nat.mod_self] at hz; exact absurd rfl hz
        · exact Nat.mod_eq_of_lt (by omega)
      rw [e, Nat.mul_comm f o]
      omega
theorem gt_int {S : Sto} {i j : Int} : cmpV .gt S (.int i) (.int j) = some (decide (j < i)) := rfl
theorem abs_int {S : Sto} {i : Int} : primV .abs S [.int i] = some (.int (if i < 0 then -i else i)) := rfl
theorem abs_nat (i : Int) : (if i < 0 then -i else i) = (i.natAbs : Int) := by split <;> omega
/-- one, found = found % one, one, as long as one > 0 -/
theorem euclid {cf : Nat → List Tv → M Tv} {S : Sto} {D : Po} {t0 t2 : Option Tv} {o f : Nat} (hl : gmu o f < Fu) (h : ∀ e3 : Option Tv, D.nx [t0, some (.int (Nat.gcd o f)), t2, e3] S) :
    (ex cf Fu (.whileS (.cmp .gt (.var 3) (.int 0)) [.asg (.tup [(.v 3), (.v 1)]) (.tup [(.bin .mod (.var 1) (.var 3)), (.var 3)])]) [t0, some (.int f), t2, some (.int o)] S).wp D := by
  rw [ex_while]
  refine while_inv (fun k env S' => S' = S ∧ ∃ o' f' : Nat, env = [t0, some (.int f'), t2, some (.int o')] ∧ k = gmu o' f' ∧ Nat.gcd o' f' = Nat.gcd o f) ?_ Fu _ _ _ hl ⟨rfl, o, f, rfl, rfl, rfl⟩
  rintro k env S' ⟨rfl, o', f', rfl, rfl, hg⟩
  simp only [t_cmp, w_var, List.getElem?_cons_zero, List.getElem?_cons_succ, w_int, gt_int, opt_some]
  by_cases ho : o' = 0
  · subst ho
    rw [if_neg (by simp)]
    have := h (some (.int (0 : Nat)))
    rw [← hg, Nat.gcd_zero_left] at this
    exact this
  · have ho' : (0 : Int) < (o' : Int) := by omega
    rw [if_pos (decide_eq_true ho'), exs_cons]
    have l2 : ((List.length [Tv.int ((f' : Int) % (o' : Int)), Tv.int (o' : Int)]) ≤ lim) = True := by simp [lim]
    simp only [ex_asg, w_tup, w_cons, w_nil, w_bin, w_var, List.getElem?_cons_zero, List.getElem?_cons_succ, mod_int ho', opt_some, l2, if_true, setTg, setTgs, List.set_cons_zero, List.set_cons_succ, exs_nil]
    refine ⟨gmu (f' % o') o', gmu_step (by omega), trivial, f' % o', o', ?_, rfl, ?_⟩
    · rfl
    · rw [← hg, ← Nat.gcd_rec]
theorem divisor_ok {cf : Nat → List Tv → M Tv} {S : Sto} {ns : List Int} {B : Nat} (hB : ∀ n ∈ ns, ∀ f : Nat, f ≤ B → gmu n.natAbs f < Fu) (hb : ∀ n ∈ ns, n.natAbs ≤ B) : runD cf xDivisor [.tup (ns.map Tv.int)] S = .ok (.int (gcdF 0 ns)) S := by
  obtain ⟨t, e, q⟩ := run_pure (cf := cf) (d := xDivisor) (as := [.tup (ns.map Tv.int)]) (S := S) (Q := fun t => t = .int (gcdF 0 ns)) rfl (by
    show (exs cf Fu xDivisor.body [some (.tup (ns.map Tv.int)), none, none, none] S).wp _
    unfold xDivisor
    rw [exs_cons]
    simp only [ex_asg, w_int, setTg, List.set_cons_zero, List.set_cons_succ]
    rw [exs_cons]
    simp only [ex_for, i_seq, w_var, List.getElem?_cons_zero, srcOf, opt_some]
    refine for_inv (fun ts env S' => S' = S ∧ ∃ (r : List Int) (f : Nat) (e2 e3 : Option Tv), ts = r.map Tv.int ∧ env = [some (.tup (ns.map Tv.int)), some (.int f), e2, e3] ∧ gcdF f r = gcdF 0 ns ∧ f ≤ B ∧ ∀ n ∈ r, n ∈ ns) (fun _ _ _ _ => rfl) ?_ ?_ _ _ _ ⟨rfl, ns, 0, none, none, rfl, rfl, rfl, Nat.zero_le _, fun _ h => h⟩
    · rintro t r env S' ⟨rfl, rr, f, e2, e3, hr, rfl, hg, hf, hm⟩
      cases rr with
      | nil => cases hr
      | cons n rr =>
        simp only [List.map_cons, List.cons.injEq] at hr
        obtain ⟨rfl, rfl⟩ := hr
        refine ⟨_, rfl, ?_⟩
        simp only [List.set_cons_zero, List.set_cons_succ]
        rw [exs_cons]
        simp only [ex_asg, w_prim, w_cons, w_nil, w_var, List.getElem?_cons_zero, List.getElem?_cons_succ, abs_int, opt_some, setTg, List.set_cons_zero, List.set_cons_succ, abs_nat]
        rw [exs_cons]
        refine euclid (hB n (hm n List.mem_cons_self) f hf) fun e3 => ?_
        simp only [exs_nil]
        refine ⟨trivial, rr, Nat.gcd n.natAbs f, _, e3, rfl, rfl, hg, ?_, fun m h => hm m (List.mem_cons_of_mem _ h)⟩
        by_cases hz : n.natAbs = 0
        · rw [hz, Nat.gcd_zero_left]; exact hf
        · exact Nat.le_trans (Nat.gcd_le_left _ (by omega)) (hb n (hm n List.mem_cons_self))
    · rintro env S' ⟨rfl, rr, f, e2, e3, hr, rfl, hg, hf, hm⟩
      cases rr with
      | cons n rr => cases hr
      | nil =>
        dsimp only
        rw [exs_cons]
        simp only [ex_ret, w_var, List.getElem?_cons_zero, List.getElem?_cons_succ]
        exact ⟨trivial, by rw [← hg]; rfl⟩)
  rw [e, q]
end Mp
namespace Mp
def xDeck : Df := ⟨3, 1,
  [
    .asg (.v 1) (.fz (.comp [2] (.prim .abs [(.var 2)]) (.v 2) (.seq (.sl (.var 0) .nop (.int 63))) .nop)),
    .ret (.mu (.disp [(.mu (.comp [2] (.var 2) (.v 2) (.seq (.var 1)) (.cmp .ge (.var 2) (.bin .pow (.int 10) (.int 18))))), (.bin .add (.var 1) (.fz (.disp [(.bin .add (.int 2865) (.prim .len [(.var 1)]))]))), (.int 0)]))]⟩
theorem cutL_map {α β : Type} (f : α → β) (xs : List α) (lo hi : Option Int) : cutL (xs.map f) lo hi = (cutL xs lo hi).map f := by
  unfold cutL
  rw [List.length_map, List.map_take, List.map_drop]
theorem cutL_len {α : Type} (xs : List α) (lo hi : Option Int) : (cutL xs lo hi).length ≤ xs.length := by
  unfold cutL
  rw [List.length_take, List.length_drop]
  omega
theorem deck_ok {cf : Nat → List Tv → M Tv} {ns : List Int} (hl : ns.length ≤ 63) : (runD cf xDeck [.scr (ns.map Tv.int)] []).wp fun t S => t = .cell 1 ∧ Deck S 1 0 0 ∧ S.length = 2 := by
  refine run_wp rfl ?_
  show (exs cf Fu xDeck.body [some (.scr (ns.map Tv.int)), none, none] []).wp _
  unfold xDeck
  rw [exs_cons]
  have hm : (cutL ns none (some 63)).length ≤ 63 := Nat.le_trans (cutL_len _ _ _) hl
  have hs : slV ([] : Sto) (.scr (ns.map Tv.int)) none (some 63) = some (.lst ((cutL ns none (some 63)).map Tv.int)) := by
    show some (Tv.lst (cutL (ns.map Tv.int) none (some 63))) = _
    rw [cutL_map]
  generalize hms : cutL ns none (some 63) = ms at hm hs
  have c1 : compL ([] : List (Nat × List Tv)) (.v 2) (wipeE [some (.scr (ns.map Tv.int)), none, none] [2]) (ev cf .nop).t (ev cf (.prim .abs [(.var 2)])).v (ms.map Tv.int) [] = .ok ((ms.map fun m => (m.natAbs : Int)).map Tv.int) [] := by
    have z := comp_map (w := []) (tg := .v 2) (env := wipeE [some (.scr (ns.map Tv.int)), none, none] [2]) (c := (ev cf .nop).t) (elt := (ev cf (.prim .abs [(.var 2)])).v) (S := []) (fun _ => true) (fun t => match t with | .int i => .int (i.natAbs : Int) | t => t) rfl (ms.map Tv.int) (fun t ht => by
      obtain ⟨m, _, rfl⟩ := List.mem_map.mp ht
      refine ⟨_, rfl, rfl, fun _ => ?_⟩
      show Rs.ok (Tv.int (if m < 0 then -m else m)) [] = _
      rw [abs_nat])
    rw [z, List.filter_eq_self.mpr (fun _ _ => rfl), List.map_map, List.map_map]
    rfl
  generalize hcs : (ms.map fun m => (m.natAbs : Int)) = cs at c1
  have hcl : cs.length ≤ 63 := by rw [← hcs, List.length_map]; exact hm
  have l1 : ((ms.map Tv.int).length ≤ lim) = True := by rw [List.length_map]; simp [lim]; omega
  simp only [ex_asg, w_fz, w_comp, i_seq, w_sl0, w_var, List.getElem?_cons_zero, hs, opt_some, srcOf, l1, if_true, c1, wp_ok, setTg, List.set_cons_zero, List.set_cons_succ]
  rw [exs_cons]
  have c2 : ∀ S : Sto, compL ([] : List (Nat × List Tv)) (.v 2) (wipeE [some (.scr (ns.map Tv.int)), some (.lst (cs.map Tv.int)), none] [2]) (ev cf (.cmp .ge (.var 2) (.bin .pow (.int 10) (.int 18)))).t (ev cf (.var 2)).v (cs.map Tv.int) S = .ok ((cs.filter fun c => decide ((10 : Int) ^ 18 ≤ c)).map Tv.int) S := fun S => by
    have z := comp_map (w := []) (tg := .v 2) (env := wipeE [some (.scr (ns.map Tv.int)), some (.lst (cs.map Tv.int)), none] [2]) (c := (ev cf (.cmp .ge (.var 2) (.bin .pow (.int 10) (.int 18)))).t) (elt := (ev cf (.var 2)).v) (S := S) (fun t => match t with | .int i => decide ((10 : Int) ^ 18 ≤ i) | _ => false) (fun t => t) rfl (cs.map Tv.int) (fun t ht => by
      obtain ⟨m, _, rfl⟩ := List.mem_map.mp ht
      exact ⟨_, rfl, rfl, fun _ => rfl⟩)
    rw [z]
    congr 1
    rw [List.filter_map, List.map_map]
    rfl
  have l2 : ((cs.map Tv.int).length ≤ lim) = True := by rw [List.length_map]; simp [lim]; omega
  have e1 : ∀ S : Sto, primV .len S [.lst (cs.map Tv.int)] = some (.int (cs.map Tv.int).length) := fun S => rfl
  have e2 : ∀ (S : Sto) (k : Int), binV .add S (.lst (cs.map Tv.int)) (.lst [.int k]) = some (.lst (cs.map Tv.int ++ [.int k])) := fun S k => by
    show (match lstOf S (.lst [.int k]) with
      | some v => if (cs.map Tv.int).length + v.length ≤ lim then some (Tv.lst (cs.map Tv.int ++ v)) else none
      | _ => none) = _
    show (if (cs.map Tv.int).length + 1 ≤ lim then some (Tv.lst (cs.map Tv.int ++ [.int k])) else none) = _
    rw [if_pos (by rw [List.length_map]; simp [lim]; omega)]
  have l3 : ∀ k : Int, (([Tv.int k] : List Tv).length ≤ lim) = True := fun k => by simp [lim]
  have l4 : ∀ a b c : Tv, (([a, b, c] : List Tv).length ≤ lim) = True := fun a b c => by simp [lim]
  simp only [ex_ret, w_mu, w_disp, w_cons, w_nil, w_comp, w_bin, w_prim, w_fz, i_seq, w_var, w_int, List.getElem?_cons_zero, List.getElem?_cons_succ, opt_some, srcOf, l2, if_true, c2, wp_ok, e1, add_int, l3, e2, l4]
  rw [if_neg (by simp [Tv.noCell])]
  refine ⟨rfl, ⟨⟨cs.filter fun c => decide ((10 : Int) ^ 18 ≤ c), cs ++ [2865 + ((cs.map Tv.int).length : Int)], 0, ?_, rfl, by simp, ?_, by omega, by omega⟩, by decide⟩, rfl⟩
  · rw [List.map_append]
    rfl
  · rw [List.length_append]
    simp
    omega
/-! ### one of a list of things -/
def xPick : Nat → Df := fun k => ⟨2, 2, [.ret (.ix (.var 1) (.call k [(.var 0), (.prim .len [(.var 1)])]))]⟩
theorem pick_ok {cf : Nat → List Tv → M Tv} {k : Nat} (hk : cf k = runD cf xDraw ∨ ∃ cf', cf k = runD cf' xDraw) {S : Sto} {n0 n1 b : Nat} {ts : List Tv} (h : Deck S n0 n1 b) (hb : b < 1000000) (h0 : ts ≠ []) (hl : ts.length ≤ 1000) :
    (runD cf (xPick k) [.cell n0, .lst ts] S).wp fun t S' => t ∈ ts ∧ Deck S' n0 n1 (b + 1) ∧ Oth n0 n1 S S' := by
  have dr : (cf k [.cell n0, .int ts.length] S).wp fun t S' => ∃ v : Int, t = .int v ∧ 0 ≤ v ∧ v < (ts.length : Int) ∧ Deck S' n0 n1 (b + 1) ∧ Oth n0 n1 S S' := by
    have hp : (0 : Int) < (ts.length : Int) := by
      have := List.length_pos_iff.mpr h0
      omega
    have h2 : ((ts.length : Int)).natAbs.log2 < 9000 := by
      have e : ((ts.length : Int)).natAbs = ts.length := rfl
      rw [e]
      have hz : ts.length ≠ 0 := by omega
      exact Nat.lt_trans ((Nat.log2_lt hz).mpr (Nat.lt_of_le_of_lt hl (by decide : 1000 < 2 ^ 10))) (by decide)
    rcases hk with hk | ⟨cf', hk⟩
    · rw [hk]; exact draw_ok h hp h2 hb
    · rw [hk]; exact draw_ok h hp h2 hb
  refine run_same rfl ?_
  show (exs cf Fu (xPick k).body [some (.cell n0), some (.lst ts)] S).wp _
  unfold xPick
  rw [exs_cons]
  have e1 : primV .len S [.lst ts] = some (.int ts.length) := rfl
  simp only [ex_ret, w_ix, w_var, w_call, w_cons, w_nil, w_prim, List.getElem?_cons_zero, List.getElem?_cons_succ, e1, opt_some]
  refine wp_mono dr fun t S' ⟨v, hv, v0, v1, d, o⟩ => ?_
  subst hv
  obtain ⟨j, hj⟩ := Int.eq_ofNat_of_zero_le v0
  subst hj
  have hj2 : j < ts.length := by omega
  have e2 : ixV S' (.lst ts) (.int (j : Nat)) = some ts[j] := by
    show L2.atI ts (j : Int) = _
    exact L2.atI_nat (List.getElem?_eq_getElem hj2)
  rw [e2, opt_some]
  exact ⟨o.len, List.getElem_mem hj2, d, o⟩
end Mp
namespace Mp
def xIsZero : Df := ⟨2, 1,
  [
    .ret (.nt (.prim .any [(.fz (.comp [1] (.cmp .ne (.var 1) (.int 0)) (.v 1) (.seq (.var 0)) .nop))]))]⟩
theorem blsOf_map {α : Type} (p : α → Bool) : ∀ xs : List α, blsOf (xs.map fun x => Tv.bl (p x)) = some (xs.map p)
  | [] => rfl
  | x :: r => by simp only [List.map_cons, blsOf, blsOf_map p r, Option.map_some]
theorem ne_int {S : Sto} {i j : Int} : cmpV .ne S (.int i) (.int j) = some (!(i == j)) := by
  show (cmpV .eq S (.int i) (.int j)).map _ = _
  rw [eq_int]
  rfl
theorem evb {cf : Nat → List Tv → M Tv} {env : Env} {S S' : Sto} {e : Ex} {t : Tv} (h : ((ev cf e).v env S).wp fun u S2 => u = t ∧ S2 = S') : (ev cf e).v env S = .ok t S' := by
  obtain ⟨a, S2, e1, rfl, rfl⟩ := wp_get h
  exact e1
theorem tru_bl' {k : Bool} {S : Sto} {QB : Bool → Sto → Prop} : (truthM (.bl k) S).wp QB = QB k S := wp_ok
theorem isZero_ok {cf : Nat → List Tv → M Tv} {S : Sto} {ns : List Int} (hl : ns.length ≤ 1000) : runD cf xIsZero [.tup (ns.map Tv.int)] S = .ok (.bl (!(ns.any fun n => !(n == 0)))) S := by
  obtain ⟨t, e, q⟩ := run_pure (cf := cf) (d := xIsZero) (as := [.tup (ns.map Tv.int)]) (S := S) (Q := fun t => t = .bl (!(ns.any fun n => !(n == 0)))) rfl (by
    show (exs cf Fu xIsZero.body [some (.tup (ns.map Tv.int)), none] S).wp _
    unfold xIsZero
    rw [exs_cons]
    have c1 : compL ([] : List (Nat × List Tv)) (.v 1) (wipeE [some (.tup (ns.map Tv.int)), none] [1]) (ev cf .nop).t (ev cf (.cmp .ne (.var 1) (.int 0))).v (ns.map Tv.int) S = .ok (ns.map fun n => Tv.bl (!(n == 0))) S := by
      have z := comp_map (w := []) (tg := .v 1) (env := wipeE [some (.tup (ns.map Tv.int)), none] [1]) (c := (ev cf .nop).t) (elt := (ev cf (.cmp .ne (.var 1) (.int 0))).v) (S := S) (fun _ => true) (fun t => match t with | .int i => .bl (!(i == 0)) | t => t) rfl (ns.map Tv.int) (fun t ht => by
        obtain ⟨m, _, rfl⟩ := List.mem_map.mp ht
        refine ⟨_, rfl, rfl, fun _ => evb ?_⟩
        simp only [w_cmp, w_var, wipeE, List.set_cons_zero, List.set_cons_succ, List.getElem?_cons_zero, List.getElem?_cons_succ, w_int, ne_int, opt_some, and_self])
      rw [z, List.filter_eq_self.mpr (fun _ _ => rfl), List.map_map]
      rfl
    have l1 : ((ns.map Tv.int).length ≤ lim) = True := by rw [List.length_map]; simp [lim]; omega
    have e1 : primV .any S [.lst (ns.map fun n => Tv.bl (!(n == 0)))] = some (.bl (ns.any fun n => !(n == 0))) := by
      show ((some (ns.map fun n => Tv.bl (!(n == 0)))).bind fun ts => (blsOf ts).map fun bs => Tv.bl (bs.any id)) = _
      simp only [Option.bind_some, blsOf_map, Option.map_some, List.any_map]
      rfl
    simp only [ex_ret, w_nt, w_prim, w_cons, w_nil, w_fz, w_comp, i_seq, w_var, List.getElem?_cons_zero, srcOf, opt_some, l1, if_true, c1, wp_ok, e1, tru_bl']
    exact ⟨trivial, trivial⟩)
  rw [e, q]
def xIsLess : Df := ⟨2, 2,
  [
    .ret (.cmp .lt (.bin .mul (.ix (.var 0) (.int 0)) (.ix (.var 1) (.int 1))) (.bin .mul (.ix (.var 1) (.int 0)) (.ix (.var 0) (.int 1))))]⟩
theorem lt_int' {S : Sto} {i j : Int} : cmpV .lt S (.int i) (.int j) = some (decide (i < j)) := rfl
theorem isLess_ok {cf : Nat → List Tv → M Tv} {S : Sto} {a b c d : Int} (ha : a.natAbs.log2 < 400000) (hb : b.natAbs.log2 < 400000) (hc : c.natAbs.log2 < 400000) (hd : d.natAbs.log2 < 400000) :
    runD cf xIsLess [.tup [.int a, .int b], .tup [.int c, .int d]] S = .ok (.bl (decide (a * d < c * b))) S := by
  obtain ⟨t, e, q⟩ := run_pure (cf := cf) (d := xIsLess) (as := [.tup [.int a, .int b], .tup [.int c, .int d]]) (S := S) (Q := fun t => t = .bl (decide (a * d < c * b))) rfl (by
    show (exs cf Fu xIsLess.body [some (.tup [.int a, .int b]), some (.tup [.int c, .int d])] S).wp _
    unfold xIsLess
    rw [exs_cons]
    have ix0 : ∀ (S : Sto) (x y : Tv), ixV S (.tup [x, y]) (.int 0) = some x := fun S x y => show L2.atI [x, y] 0 = some x from at0
    have ix1 : ∀ (S : Sto) (x y : Tv), ixV S (.tup [x, y]) (.int 1) = some y := fun S x y => show L2.atI [x, y] 1 = some y from at1
    have m1 : ∀ S, binV .mul S (.int a) (.int d) = some (.int (a * d)) := fun S => mul_int (by omega)
    have m2 : ∀ S, binV .mul S (.int c) (.int b) = some (.int (c * b)) := fun S => mul_int (by omega)
    simp only [ex_ret, w_cmp, w_bin, w_ix, w_var, List.getElem?_cons_zero, List.getElem?_cons_succ, w_int, ix0, ix1, opt_some, m1, m2, lt_int']
    exact ⟨trivial, trivial⟩)
  rw [e, q]
def xFraction : Nat → Df := fun k => ⟨3, 2,
  [
    .asg (.v 2) (.call k [(.tup [(.var 0), (.var 1)])]),
    .ret (.tup [(.bin .fdiv (.var 0) (.var 2)), (.bin .fdiv (.var 1) (.var 2))])]⟩
end Mp
namespace Mp
/-! ### the plain walk goes head first: what comes behind is left as it is -/
section
variable {cf : Nat → List Tv → M Tv} {env : Env} {S : Sto} {Q : Tv → Sto → Prop} {QB : Bool → Sto → Prop} {QL : List Tv → Sto → Prop} {a b c e : Ex} {es : List Ex}
theorem t_var {i : Nat} : ((ev cf (.var i)).t env S).wp QB = ((ev cf (.var i)).v env S).wp fun x S => (truthM x S).wp QB := by
  show (bnd ((ev cf (.var i)).v env) _ S).wp QB = _
  rw [wp_bnd]
theorem t_ite : ((ev cf (.ite c a b)).t env S).wp QB = ((ev cf c).t env S).wp fun k S => if k = true then ((ev cf a).t env S).wp QB else ((ev cf b).t env S).wp QB := by
  show (bnd _ _ S).wp QB = _
  simp only [wp_bnd]
  congr 1; funext k S
  cases k <;> rfl
theorem w_chain {o p : Co} : ((ev cf (.chain o p a b c)).v env S).wp Q = ((ev cf (.chain o p a b c)).t env S).wp fun k S => Q (.bl k) S := by
  show (bnd ((ev cf (.chain o p a b c)).t env) _ S).wp Q = _
  simp only [wp_bnd, wp_ret]
theorem w_isC {ng : Bool} {cc : Option Bool} : ((ev cf (.isC ng a cc)).v env S).wp Q = ((ev cf (.isC ng a cc)).t env S).wp fun k S => Q (.bl k) S := by
  show (bnd ((ev cf (.isC ng a cc)).t env) _ S).wp Q = _
  simp only [wp_bnd, wp_ret]
theorem w_rev : ((ev cf (.rev a)).v env S).wp Q = ((ev cf a).v env S).wp fun x S => (opt (revV S x) S).wp Q := by
  show (bnd _ _ S).wp Q = _
  simp only [wp_bnd]
theorem w_pop : ((ev cf (.pop a)).v env S).wp Q = ((ev cf a).v env S).wp fun x S => (popL x S).wp Q := by
  show (bnd _ _ S).wp Q = _
  simp only [wp_bnd]
theorem w_sl {lo hi : Ex} : ((ev cf (.sl a lo hi)).v env S).wp Q = ((ev cf a).v env S).wp fun x S => (evEnd lo ((ev cf lo).v env) S).wp fun l S => (evEnd hi ((ev cf hi).v env) S).wp fun h S => (opt (slV S x l h) S).wp Q := by
  show (bnd _ _ S).wp Q = _
  simp only [wp_bnd]
variable {QE : Option Int → Sto → Prop}
theorem e_nop {m : M Tv} : (evEnd .nop m S).wp QE = QE none S := wp_ok
theorem e_int {i : Int} : (evEnd (.int i) ((ev cf (.int i)).v env) S).wp QE = QE (some i) S := wp_ok
theorem e_var {i : Nat} : (evEnd (.var i) ((ev cf (.var i)).v env) S).wp QE = ((ev cf (.var i)).v env S).wp fun x S => match x with
    | .int i => QE (some i) S
    | _ => False := by
  show (bnd _ _ S).wp QE = _
  simp only [wp_bnd]
  congr 1; funext x S
  cases x <;> first | exact wp_ok | exact wp_bad
theorem e_bin {o : Bo} : (evEnd (.bin o a b) ((ev cf (.bin o a b)).v env) S).wp QE = ((ev cf (.bin o a b)).v env S).wp fun x S => match x with
    | .int i => QE (some i) S
    | _ => False := by
  show (bnd _ _ S).wp QE = _
  simp only [wp_bnd]
  congr 1; funext x S
  cases x <;> first | exact wp_ok | exact wp_bad
theorem i_rng2 {QI : List Tv × List (Nat × List Tv) → Sto → Prop} : (evI cf (.rng2 a b) env S).wp QI = ((ev cf a).v env S).wp fun x S => ((ev cf b).v env S).wp fun y S => match x, y with
    | .int i, .int j => if (-1000000 < i ∧ i < 1000000) ∧ -1000000 < j ∧ j < 1000000 then QI (rngT i (j - i).toNat, []) S else False
    | _, _ => False := by
  show (bnd _ _ S).wp QI = _
  simp only [wp_bnd]
  congr 1; funext x S
  congr 1; funext y S
  cases x <;> cases y <;> first | exact wp_bad | (simp only; split <;> first | exact wp_ok | exact wp_bad)
theorem tru_bl {k : Bool} : (truthM (.bl k) S).wp QB = QB k S := wp_ok
end
theorem le_int' {S : Sto} {i j : Int} : cmpV .le S (.int i) (.int j) = some (decide (i ≤ j)) := rfl
theorem ge_int' {S : Sto} {i j : Int} : cmpV .ge S (.int i) (.int j) = some (decide (j ≤ i)) := rfl
theorem sub_int {S : Sto} {i j : Int} : binV .sub S (.int i) (.int j) = some (.int (i - j)) := rfl
theorem src_lst {S : Sto} {ts : List Tv} : srcOf S (.lst ts) = some (ts, []) := rfl
theorem src_tup {S : Sto} {ts : List Tv} : srcOf S (.tup ts) = some (ts, []) := rfl
theorem len0 : (([] : List Tv).length ≤ lim) = True := by simp [lim]
theorem len1 {a : Tv} : ([a].length ≤ lim) = True := by simp [lim]
theorem len2 {a b : Tv} : ([a, b].length ≤ lim) = True := by simp [lim]
theorem len3 {a b c : Tv} : ([a, b, c].length ≤ lim) = True := by simp [lim]
theorem len4 {a b c d : Tv} : ([a, b, c, d].length ≤ lim) = True := by simp [lim]
theorem len5 {a b c d e : Tv} : ([a, b, c, d, e].length ≤ lim) = True := by simp [lim]
theorem len6 {a b c d e f : Tv} : ([a, b, c, d, e, f].length ≤ lim) = True := by simp [lim]
theorem len7 {a b c d e f g : Tv} : ([a, b, c, d, e, f, g].length ≤ lim) = True := by simp [lim]
theorem len8 {a b c d e f g h : Tv} : ([a, b, c, d, e, f, g, h].length ≤ lim) = True := by simp [lim]
theorem len9 {a b c d e f g h i : Tv} : ([a, b, c, d, e, f, g, h, i].length ≤ lim) = True := by simp [lim]
theorem len10 {a b c d e f g h i j : Tv} : ([a, b, c, d, e, f, g, h, i, j].length ≤ lim) = True := by simp [lim]
section
variable {S : Sto} {x y z u : Tv} {ts : List Tv}
theorem ix_t0 : ixV S (.tup (x :: ts)) (.int 0) = some x := show L2.atI (x :: ts) 0 = some x from at0
theorem ix_t1 : ixV S (.tup (x :: y :: ts)) (.int 1) = some y := show L2.atI (x :: y :: ts) 1 = some y from at1
theorem ix_t2 : ixV S (.tup (x :: y :: z :: ts)) (.int 2) = some z := show L2.atI (x :: y :: z :: ts) 2 = some z from at2
theorem ix_t3 : ixV S (.tup (x :: y :: z :: u :: ts)) (.int 3) = some u := show L2.atI (x :: y :: z :: u :: ts) 3 = some u from L2.atI_nat (j := 3) rfl
theorem ix_l0 : ixV S (.lst (x :: ts)) (.int 0) = some x := show L2.atI (x :: ts) 0 = some x from at0
theorem ix_l1 : ixV S (.lst (x :: y :: ts)) (.int 1) = some y := show L2.atI (x :: y :: ts) 1 = some y from at1
theorem ix_l2 : ixV S (.lst (x :: y :: z :: ts)) (.int 2) = some z := show L2.atI (x :: y :: z :: ts) 2 = some z from at2
theorem is_non : isCV none .non = some true := rfl
end
theorem len_map {α : Type} {f : α → Tv} {xs : List α} (h : xs.length ≤ 100000) : ((xs.map f).length ≤ lim) = True := by
  rw [List.length_map]
  simp [lim]
  omega
theorem rngT_len' : ∀ {m : Nat} {j : Int}, (rngT j m).length = m
  | 0, _ => rfl
  | m + 1, j => by simp only [rngT, List.length_cons, rngT_len']
theorem rngT_map : ∀ (m : Nat) (j : Int), rngT j m = (List.range m).map fun (k : Nat) => Tv.int (j + (k : Int))
  | 0, _ => rfl
  | m + 1, j => by
    rw [rngT, rngT_map m (j + 1), List.range_succ_eq_map, List.map_cons, List.map_map]
    congr 1
    · simp
    · apply List.map_congr_left
      intro k _
      show Tv.int (j + 1 + (k : Int)) = Tv.int (j + ((k + 1 : Nat) : Int))
      rw [Int.natCast_add, Int.add_assoc, Int.add_comm 1]
      rfl
/-- a def that leaves the store as it is and hands back v -/
theorem run_eq {cf : Nat → List Tv → M Tv} {d : Df} {as : List Tv} {S : Sto} {v : Tv} (hl : as.length = d.k)
    (h : (exs cf Fu d.body (as.map some ++ List.replicate (d.n - d.k) none) S).wp { nx := fun _ _ => False, rt := fun t S' => S' = S ∧ t = v }) : runD cf d as S = .ok v S := by
  obtain ⟨t, e, q⟩ := run_pure hl h
  rw [e, q]
/-- a comprehension over a mapped list that writes nothing -/
theorem comp_on {α : Type} {w : List (Nat × List Tv)} {tg : Tg} {env : Env} {c : Env → M Bool} {elt : Env → M Tv} {S : Sto} {f : α → Tv} {xs : List α} (p : α → Bool) (g : α → Tv) (hw : stays w S = true)
    (h : ∀ x ∈ xs, match setTg tg (f x) env with
      | some e => (c e S).wp fun k S' => (S' = S ∧ k = p x) ∧ if k = true then (elt e S).wp fun y S' => S' = S ∧ y = g x else True
      | none => False) : compL w tg env c elt (xs.map f) S = .ok ((xs.filter p).map g) S := by
  induction xs with
  | nil => simp only [List.map_nil, compL]; rw [if_pos hw]; rfl
  | cons x r ih =>
    have ih := ih fun y hy => h y (List.mem_cons_of_mem _ hy)
    have hx := h x List.mem_cons_self
    simp only [List.map_cons, compL]
    rw [if_pos hw]
    cases hs : setTg tg (f x) env with
    | none => rw [hs] at hx; exact hx.elim
    | some e =>
      rw [hs] at hx
      obtain ⟨k, S1, hc, ⟨rfl, rfl⟩, hy⟩ := wp_get hx
      simp only [bnd, calmM, hc, Rs.bnd]
      cases hp : p x with
      | false =>
        simp only [Bool.false_eq_true, if_false]
        rw [ih, List.filter_cons]
        simp [hp]
      | true =>
        rw [hp, if_pos rfl] at hy
        obtain ⟨y, S2, he, rfl, rfl⟩ := wp_get hy
        simp only [if_true, bnd, calmM, he, Rs.bnd, ih]
        rw [List.filter_cons]
        simp [hp, ret]
theorem comp_all {α : Type} {w : List (Nat × List Tv)} {tg : Tg} {env : Env} {cf : Nat → List Tv → M Tv} {elt : Env → M Tv} {S : Sto} {f : α → Tv} {xs : List α} (g : α → Tv) (hw : stays w S = true)
    (h : ∀ x ∈ xs, match setTg tg (f x) env with
      | some e => (elt e S).wp fun y S' => S' = S ∧ y = g x
      | none => False) : compL w tg env (ev cf .nop).t elt (xs.map f) S = .ok (xs.map g) S := by
  have z := comp_on (c := (ev cf .nop).t) (fun _ => true) g hw (S := S) (f := f) (xs := xs) (tg := tg) (env := env) (elt := elt) (fun x hx => by
    have := h x hx
    cases hs : setTg tg (f x) env with
    | none => rw [hs] at this; exact this.elim
    | some e =>
      rw [hs] at this
      simp only [t_nop]
      simp only [and_self, if_true, true_and]
      exact this)
  rw [z, List.filter_eq_self.mpr (fun _ _ => rfl)]
/-- a for over a mapped list: what is gone through, what is left -/
theorem for_on {α : Type} {f : α → Tv} {w : List (Nat × List Tv)} {tg : Tg} {body : Env → Sto → Sr} {D : Po} {xs : List α} (P : List α → List α → Env → Sto → Prop) (hw : ∀ dn r e S, P dn r e S → stays w S = true)
    (step : ∀ dn x r env S, xs = dn ++ x :: r → P dn (x :: r) env S → match setTg tg (f x) env with
      | some e => (body e S).wp { nx := P (dn ++ [x]) r, ct := P (dn ++ [x]) r, bk := D.nx, rt := D.rt }
      | none => False) (fin : ∀ env S, P xs [] env S → D.nx env S) {env : Env} {S : Sto} (h0 : P [] xs env S) : (forL w tg body (xs.map f) env S).wp D := by
  have go : ∀ (r dn : List α) (env : Env) (S : Sto), xs = dn ++ r → P dn r env S → (forL w tg body (r.map f) env S).wp D := by
    intro r
    induction r with
    | nil =>
      intro dn env S hx h
      simp only [List.map_nil, forL]
      rw [if_pos (hw _ _ _ _ h)]
      rw [List.append_nil] at hx
      subst hx
      rw [sw_nx]
      exact fin env S h
    | cons x r ih =>
      intro dn env S hx h
      simp only [List.map_cons, forL]
      rw [if_pos (hw _ _ _ _ h)]
      have z := step dn x r env S hx h
      have hx2 : xs = (dn ++ [x]) ++ r := by rw [hx]; simp
      cases hs : setTg tg (f x) env with
      | none => rw [hs] at z; exact z.elim
      | some e =>
        rw [hs] at z
        simp only at z ⊢
        cases eb : body e S with
        | nx e' S' => rw [eb, sw_nx] at z; exact ih _ e' S' hx2 z
        | ct e' S' => rw [eb, sw_ct] at z; exact ih _ e' S' hx2 z
        | bk e' S' => rw [eb, sw_bk] at z; simp only [sw_nx]; exact z
        | rt t S' => rw [eb, sw_rt] at z; simp only [sw_rt]; exact z
        | ex c fs e' S' => rw [eb, sw_ex] at z; exact z.elim
        | bad => rw [eb, sw_bad] at z; exact z.elim
  exact go xs [] env S rfl h0
end Mp
namespace Mp
/-! ### shares by cross products -/
/-- s is at most m, as a share -/
def leC (s m : Int × Int) : Prop := s.1 * m.2 ≤ m.1 * s.2
def pr (p : Int × Int) : Tv := .tup [.int p.1, .int p.2]
theorem zipT_pr : ∀ (ws rs : List Int), zipT (ws.map Tv.int) (rs.map Tv.int) = (ws.zip rs).map pr
  | [], _ => by simp [zipT]
  | _ :: _, [] => by simp [zipT]
  | w :: ws, r :: rs => by
    simp only [List.map_cons, zipT, List.zip_cons_cons, zipT_pr ws rs]
    rfl
def mism (p : Int × Int) : Bool := !((p.1 == 0) == (p.2 == 0))
/-- what spread tells -/
def SpreadV (ws rs : List Int) (t : Tv) : Prop :=
  if (ws.any fun n => !(n == 0)) = false then t = .tup [.int 0, .int 1] else if (ws.zip rs).any mism = true then t = .non else
    ∃ m l : Int × Int, m ∈ ws.zip rs ∧ l ∈ ws.zip rs ∧ 0 < m.2 ∧ 0 < l.2 ∧ (∀ s ∈ ws.zip rs, 0 < s.2 → leC s m ∧ leC l s) ∧
      t = .tup [.int (m.1 * l.2 / Int.gcd (m.1 * l.2) (m.2 * l.1)), .int (m.2 * l.1 / Int.gcd (m.1 * l.2) (m.2 * l.1))]
end Mp
namespace Mp
def xLawDivisor : Df := ⟨5, 1,
  [
    .asg (.v 1) (.int 0),
    .forS (.v 2) (.seq (.var 0))
      [
        .asg (.v 3) (.prim .abs [(.var 2)]),
        .forS (.v 4) (.rng (.int 2000))
          [
            .ifS (.cmp .eq (.var 3) (.int 0))
              [
                .brk]
              [],
            .asg (.tup [(.v 3), (.v 1)]) (.tup [(.bin .mod (.prim .int [(.var 1)]) (.var 3)), (.var 3)])]],
    .ret (.var 1)]⟩
/-- the law's own steps of Euclid, at most so many turns -/
theorem euclid2 {cf : Nat → List Tv → M Tv} {S : Sto} {D : Po} {t0 t2 e4 : Option Tv} {o f : Nat} (hl : gmu o f < 2000) (h : ∀ e3 e4 : Option Tv, D.nx [t0, some (.int (Nat.gcd o f)), t2, e3, e4] S) :
    (ex cf Fu (.forS (.v 4) (.rng (.int 2000)) [.ifS (.cmp .eq (.var 3) (.int 0)) [.brk] [], .asg (.tup [(.v 3), (.v 1)]) (.tup [(.bin .mod (.prim .int [(.var 1)]) (.var 3)), (.var 3)])]) [t0, some (.int f), t2, some (.int o), e4] S).wp D := by
  have rl : ∀ (m : Nat) (j : Int), (rngT j m).length = m := fun m j => rngT_len'
  simp only [ex_for, i_rng, w_int]
  rw [if_pos (by decide)]
  refine for_inv (fun ts env S' => S' = S ∧ ∃ (o' f' : Nat) (e4 : Option Tv), env = [t0, some (.int f'), t2, some (.int o'), e4] ∧ gmu o' f' < ts.length + (if o' = 0 then 1 else 0) ∧ Nat.gcd o' f' = Nat.gcd o f) (fun _ _ _ _ => rfl) ?_ ?_ _ _ _ ⟨rfl, o, f, e4, rfl, ?_, rfl⟩
  · rintro t r env S' ⟨rfl, o', f', e4, rfl, hk, hg⟩
    refine ⟨_, rfl, ?_⟩
    simp only [List.set_cons_zero, List.set_cons_succ]
    rw [exs_cons]
    simp only [ex_if, t_cmp, w_var, List.getElem?_cons_zero, List.getElem?_cons_succ, w_int, eq_int, opt_some]
    by_cases ho : o' = 0
    · subst ho
      rw [if_pos (by simp), exs_cons]
      simp only [ex_brk]
      have := h (some (.int (0 : Nat))) (some t)
      rw [← hg, Nat.gcd_zero_left] at this
      exact this
    · rw [if_neg (by simp; omega), exs_nil]
      dsimp only
      rw [exs_cons]
      have ho' : (0 : Int) < (o' : Int) := by omega
      have l2 : ((List.length [Tv.int ((f' : Int) % (o' : Int)), Tv.int (o' : Int)]) ≤ lim) = True := by simp [lim]
      simp only [ex_asg, w_tup, w_cons, w_nil, w_bin, w_prim, int_int, w_var, List.getElem?_cons_zero, List.getElem?_cons_succ, mod_int ho', opt_some, l2, if_true, setTg, setTgs, List.set_cons_zero, List.set_cons_succ, exs_nil]
      refine ⟨?_, f' % o', o', _, rfl, ?_, ?_⟩
      · first | trivial | rfl
      · have := gmu_step (o := o') (f := f') (by omega)
        rw [if_neg ho] at hk
        simp only [List.length_cons] at hk
        split <;> omega
      · rw [← hg, ← Nat.gcd_rec]
  · rintro env S' ⟨rfl, o', f', e4, rfl, hk, hg⟩
    have ho : o' = 0 := by
      by_cases ho : o' = 0
      · exact ho
      · rw [if_neg ho] at hk
        simp at hk
    subst ho
    have := h (some (.int (0 : Nat))) e4
    rw [← hg, Nat.gcd_zero_left] at this
    exact this
  · show gmu o f < (rngT 0 (2000 : Int).toNat).length + _
    rw [rl]
    have : (2000 : Int).toNat = 2000 := rfl
    omega
theorem lawDivisor_src {cf : Nat → List Tv → M Tv} {S : Sto} {ns : List Int} {B : Nat} {src : Tv} (hs : srcOf S src = some (ns.map Tv.int, [])) (hB : ∀ n ∈ ns, ∀ f : Nat, f ≤ B → gmu n.natAbs f < 2000) (hb : ∀ n ∈ ns, n.natAbs ≤ B) : runD cf xLawDivisor [src] S = .ok (.int (gcdF 0 ns)) S := by
  obtain ⟨t, e, q⟩ := run_pure (cf := cf) (d := xLawDivisor) (as := [src]) (S := S) (Q := fun t => t = .int (gcdF 0 ns)) rfl (by
    show (exs cf Fu xLawDivisor.body [some (src), none, none, none, none] S).wp _
    unfold xLawDivisor
    rw [exs_cons]
    simp only [ex_asg, w_int, setTg, List.set_cons_zero, List.set_cons_succ]
    rw [exs_cons, ex_for]
    simp only [i_seq, w_var, List.getElem?_cons_zero, hs, opt_some]
    refine for_inv (fun ts env S' => S' = S ∧ ∃ (r : List Int) (f : Nat) (e2 e3 e4 : Option Tv), ts = r.map Tv.int ∧ env = [some (src), some (.int f), e2, e3, e4] ∧ gcdF f r = gcdF 0 ns ∧ f ≤ B ∧ ∀ n ∈ r, n ∈ ns) (fun _ _ _ _ => rfl) ?_ ?_ _ _ _ ⟨rfl, ns, 0, none, none, none, rfl, rfl, rfl, Nat.zero_le _, fun _ h => h⟩
    · rintro t r env S' ⟨rfl, rr, f, e2, e3, e4, hr, rfl, hg, hf, hm⟩
      cases rr with
      | nil => cases hr
      | cons n rr =>
        simp only [List.map_cons, List.cons.injEq] at hr
        obtain ⟨rfl, rfl⟩ := hr
        refine ⟨_, rfl, ?_⟩
        simp only [List.set_cons_zero, List.set_cons_succ]
        rw [exs_cons]
        simp only [ex_asg, w_prim, w_cons, w_nil, w_var, List.getElem?_cons_zero, List.getElem?_cons_succ, abs_int, opt_some, setTg, List.set_cons_zero, List.set_cons_succ, abs_nat]
        rw [exs_cons]
        refine euclid2 (hB n (hm n List.mem_cons_self) f hf) fun e3 e4 => ?_
        simp only [exs_nil]
        refine ⟨?_, rr, Nat.gcd n.natAbs f, _, e3, e4, rfl, rfl, hg, ?_, fun m h => hm m (List.mem_cons_of_mem _ h)⟩
        · first | trivial | rfl
        · by_cases hz : n.natAbs = 0
          · rw [hz, Nat.gcd_zero_left]; exact hf
          · exact Nat.le_trans (Nat.gcd_le_left _ (by omega)) (hb n (hm n List.mem_cons_self))
    · rintro env S' ⟨rfl, rr, f, e2, e3, e4, hr, rfl, hg, hf, hm⟩
      cases rr with
      | cons n rr => cases hr
      | nil =>
        dsimp only
        rw [exs_cons]
        simp only [ex_ret, w_var, List.getElem?_cons_zero, List.getElem?_cons_succ]
        exact ⟨trivial, by rw [← hg]; rfl⟩)
  rw [e, q]
end Mp
namespace Mp
def xLowest : Nat → Df := fun k => ⟨3, 1,
  [
    .asg (.v 1) (.call k [(.var 0)]),
    .ret (.ite (.cmp .gt (.var 1) (.int 0)) (.prim .tuple [(.fz (.comp [2] (.bin .fdiv (.var 2) (.var 1)) (.v 2) (.seq (.var 0)) .nop))]) (.prim .tuple [(.var 0)]))]⟩
/-! ### equal quotients have one lowest form -/
end Mp
namespace Mp
end Mp
namespace Mp
/-! ### a statement at a time: what comes behind is data, and opens only on a value -/
section
variable {cf : Nat → List Tv → M Tv} {m : Nat} {r : List Sx} {env : Env} {S : Sto} {D : Po}
theorem exs_app {a b : List Sx} : (exs cf m (a ++ b) env S).wp D = (exs cf m a env S).wp { D with nx := fun e S => (exs cf m b e S).wp D } := by
  induction a generalizing env S with
  | nil => simp only [List.nil_append, exs_nil]
  | cons s a ih =>
    rw [List.cons_append, exs_cons, exs_cons]
    congr 1
    simp only [Po.mk.injEq, and_self, and_true]
    funext e S
    exact ih
def kA (cf : Nat → List Tv → M Tv) (m : Nat) (tg : Tg) (r : List Sx) (env : Env) (D : Po) (t : Tv) (S : Sto) : Prop := match setTg tg t env with
  | some e => (exs cf m r e S).wp D
  | none => False
theorem kA_eq {tg : Tg} {t : Tv} : kA cf m tg r env D t S = (match setTg tg t env with
  | some e => (exs cf m r e S).wp D
  | none => False) := rfl
theorem q_asg {tg : Tg} {e : Ex} : (exs cf m (.asg tg e :: r) env S).wp D = ((ev cf e).v env S).wp (kA cf m tg r env D) := by
  rw [exs_cons, ex_asg]
  rfl
def kR (cf : Nat → List Tv → M Tv) (m : Nat) (r : List Sx) (D : Po) (env : Env) (S : Sto) : Prop := (exs cf m r env S).wp D
theorem kR_eq : kR cf m r D env S = (exs cf m r env S).wp D := rfl
def kD (cf : Nat → List Tv → M Tv) (m : Nat) (r : List Sx) (env : Env) (D : Po) (t : Tv) (S : Sto) : Prop := (exs cf m r env S).wp D
theorem kD_eq {t : Tv} : kD cf m r env D t S = (exs cf m r env S).wp D := rfl
theorem q_drop {e : Ex} : (exs cf m (.drop e :: r) env S).wp D = ((ev cf e).v env S).wp (kD cf m r env D) := by
  rw [exs_cons, ex_drop]
  rfl
theorem q_ret {e : Ex} : (exs cf m (.ret e :: r) env S).wp D = ((ev cf e).v env S).wp D.rt := by
  rw [exs_cons, ex_ret]
def kI (cf : Nat → List Tv → M Tv) (m : Nat) (a b r : List Sx) (env : Env) (D : Po) (k : Bool) (S : Sto) : Prop := match k with
  | true => (exs cf m (a ++ r) env S).wp D
  | false => (exs cf m (b ++ r) env S).wp D
theorem kI_t {a b : List Sx} : kI cf m a b r env D true S = (exs cf m (a ++ r) env S).wp D := rfl
theorem kI_f {a b : List Sx} : kI cf m a b r env D false S = (exs cf m (b ++ r) env S).wp D := rfl
theorem q_if {c : Ex} {a b : List Sx} : (exs cf m (.ifS c a b :: r) env S).wp D = ((ev cf c).t env S).wp (kI cf m a b r env D) := by
  rw [exs_cons, ex_if]
  congr 1
  funext k S
  cases k with
  | true => rw [if_pos rfl, kI_t, exs_app]
  | false => rw [if_neg (by decide), kI_f, exs_app]
def kS (cf : Nat → List Tv → M Tv) (m : Nat) (r : List Sx) (env : Env) (D : Po) : Option Sto → Prop
  | some S => (exs cf m r env S).wp D
  | none => False
theorem kS_eq : kS cf m r env D (some S) = (exs cf m r env S).wp D := rfl
theorem q_set {a i e : Ex} : (exs cf m (.setIx a i e :: r) env S).wp D = ((ev cf e).v env S).wp fun t S => ((ev cf a).v env S).wp fun x S => ((ev cf i).v env S).wp fun j S => kS cf m r env D (setAt x j t S) := by
  rw [exs_cons, ex_set]
  congr 1
theorem q_pass : (exs cf m (.pass :: r) env S).wp D = (exs cf m r env S).wp D := by rw [exs_cons, ex_pass]
theorem q_brk : (exs cf m (.brk :: r) env S).wp D = D.bk env S := by rw [exs_cons, ex_brk]
theorem q_cont : (exs cf m (.cont :: r) env S).wp D = D.ct env S := by rw [exs_cons, ex_cont]
def kF (cf : Nat → List Tv → M Tv) (m : Nat) (tg : Tg) (b r : List Sx) (env : Env) (D : Po) (q : List Tv × List (Nat × List Tv)) (S : Sto) : Prop := (forL q.2 tg (exs cf m b) q.1 env S).wp { D with nx := kR cf m r D }
theorem kF_eq {tg : Tg} {b : List Sx} {ts : List Tv} {w : List (Nat × List Tv)} : kF cf m tg b r env D (ts, w) S = (forL w tg (exs cf m b) ts env S).wp { D with nx := kR cf m r D } := rfl
theorem q_for {tg : Tg} {it : Ix} {b : List Sx} : (exs cf m (.forS tg it b :: r) env S).wp D = (evI cf it env S).wp (kF cf m tg b r env D) := by
  rw [exs_cons, ex_for]
  rfl
/-! guards as ∧: nothing is left that whnf would run -/
theorem if_and {c P : Prop} [Decidable c] : (if c then P else False) = (c ∧ P) := by
  by_cases h : c <;> simp [h]
section
variable {cf : Nat → List Tv → M Tv} {env : Env} {S : Sto} {Q : Tv → Sto → Prop} {QL : List Tv → Sto → Prop} {a b c e : Ex} {es : List Ex}
theorem a_tup : ((ev cf (.tup es)).v env S).wp Q = (evs cf es env S).wp fun xs S => xs.length ≤ lim ∧ Q (.tup xs) S := by
  rw [w_tup]
  simp only [if_and]
theorem a_disp : (evL cf (.disp es) env S).wp QL = (evs cf es env S).wp fun xs S => xs.length ≤ lim ∧ QL xs S := by
  rw [w_disp]
  simp only [if_and]
theorem a_comp {own : List Nat} {tg : Tg} {it : Ix} : (evL cf (.comp own e tg it c) env S).wp QL = (evI cf it env S).wp fun q S => q.1.length ≤ lim ∧ (compL q.2 tg (wipeE env own) (ev cf c).t (ev cf e).v q.1 S).wp QL := by
  rw [w_comp]
  simp only [if_and]
variable {QI : List Tv × List (Nat × List Tv) → Sto → Prop}
/-- the places of a range -/
def rngA (x : Tv) (QI : List Tv × List (Nat × List Tv) → Sto → Prop) (S : Sto) : Prop := match x with
  | .int i => (-1000000 < i ∧ i < 1000000) ∧ QI (rngT 0 i.toNat, []) S
  | _ => False
theorem rngA_int {i : Int} : rngA (.int i) QI S = ((-1000000 < i ∧ i < 1000000) ∧ QI (rngT 0 i.toNat, []) S) := rfl
theorem a_rng : (evI cf (.rng a) env S).wp QI = ((ev cf a).v env S).wp fun x S => rngA x QI S := by
  rw [i_rng]
  congr 1; funext x S
  cases x <;> simp only [if_and, rngA]
def rngB (x y : Tv) (QI : List Tv × List (Nat × List Tv) → Sto → Prop) (S : Sto) : Prop := match x, y with
  | .int i, .int j => ((-1000000 < i ∧ i < 1000000) ∧ -1000000 < j ∧ j < 1000000) ∧ QI (rngT i (j - i).toNat, []) S
  | _, _ => False
theorem rngB_int {i j : Int} : rngB (.int i) (.int j) QI S = (((-1000000 < i ∧ i < 1000000) ∧ -1000000 < j ∧ j < 1000000) ∧ QI (rngT i (j - i).toNat, []) S) := rfl
theorem a_rng2 : (evI cf (.rng2 a b) env S).wp QI = ((ev cf a).v env S).wp fun x S => ((ev cf b).v env S).wp fun y S => rngB x y QI S := by
  rw [i_rng2]
  congr 1; funext x S
  congr 1; funext y S
  cases x <;> cases y <;> simp only [if_and, rngB]
def zipA (o p : Option (List Tv × List (Nat × List Tv))) (QI : List Tv × List (Nat × List Tv) → Sto → Prop) (S : Sto) : Prop := match o, p with
  | some (xs, u), some (ys, v) => QI (zipT xs ys, u ++ v) S
  | _, _ => False
theorem zipA_some {xs ys : List Tv} {u v : List (Nat × List Tv)} : zipA (some (xs, u)) (some (ys, v)) QI S = QI (zipT xs ys, u ++ v) S := rfl
theorem a_zip : (evI cf (.zip a b) env S).wp QI = ((ev cf a).v env S).wp fun x S => ((ev cf b).v env S).wp fun y S => zipA (srcOf S x) (srcOf S y) QI S := by
  rw [i_zip]
  rfl
def enA (o : Option (List Tv × List (Nat × List Tv))) (QI : List Tv × List (Nat × List Tv) → Sto → Prop) (S : Sto) : Prop := match o with
  | some (xs, u) => QI (enumT 0 xs, u) S
  | none => False
theorem enA_some {xs : List Tv} {u : List (Nat × List Tv)} : enA (some (xs, u)) QI S = QI (enumT 0 xs, u) S := rfl
theorem a_enum : (evI cf (.enum a) env S).wp QI = ((ev cf a).v env S).wp fun x S => enA (srcOf S x) QI S := by
  rw [i_enum]
  rfl
end
end
def tsI (ns : List Int) : Tv := .tup (ns.map Tv.int)
def lsI (r : List Int) : Tv := .lst (r.map Tv.int)
theorem src_tsI {S : Sto} {ns : List Int} : srcOf S (tsI ns) = some (ns.map Tv.int, []) := rfl
theorem src_lsI {S : Sto} {ns : List Int} : srcOf S (lsI ns) = some (ns.map Tv.int, []) := rfl
end Mp
namespace Mp
/-! ### draws as rules of the plain walk -/
/-- the deck stands at its places, and was asked at most b times -/
abbrev Dk (b : Nat) (S : Sto) : Prop := Deck S 1 0 b
/-- what stood, the deck left out, stands -/
structure Grow (S S' : Sto) : Prop where
  le : S.length ≤ S'.length
  at' : ∀ n, n ≠ 1 → n ≠ 0 → n < S.length → S'[n]? = S[n]?
theorem Grow.refl (S : Sto) : Grow S S := ⟨Nat.le_refl _, fun _ _ _ _ => rfl⟩
theorem Grow.trans {S S' S'' : Sto} (a : Grow S S') (b : Grow S' S'') : Grow S S'' :=
  ⟨Nat.le_trans a.le b.le, fun n h1 h0 h => by rw [b.at' n h1 h0 (Nat.lt_of_lt_of_le h a.le), a.at' n h1 h0 h]⟩
theorem Oth.grow {S S' : Sto} (o : Oth 1 0 S S') : Grow S S' := ⟨Nat.le_of_eq o.len.symm, fun n h1 h0 _ => o.at' n h1 h0⟩
theorem Dk.mono {S : Sto} {b c : Nat} (d : Dk b S) (h : b ≤ c) : Dk c S := by
  obtain ⟨⟨gs, cs, k, h0, h1, h2, h3, h4, h5⟩, hn⟩ := d
  exact ⟨⟨gs, cs, k, h0, h1, h2, h3, h4, by omega⟩, hn⟩
/-- something is drawn: the value has V -/
def Draws (V : Tv → Prop) (k : Nat) (S : Sto) (m : M Tv) : Prop := ∀ b S', Grow S S' → Dk b S' → b + k ≤ 900000 → (m S').wp fun t S'' => V t ∧ Dk (b + k) S'' ∧ Grow S' S''
theorem small_9000 {n : Nat} (h : n ≤ 100000000000000000000) (h0 : 0 < n) : n.log2 < 9000 :=
  Nat.lt_trans ((Nat.log2_lt (by omega)).mpr (Nat.lt_of_le_of_lt h (by decide : 100000000000000000000 < 2 ^ 67))) (by decide)
theorem draw_wp {cf cf' : Nat → List Tv → M Tv} {i : Nat} (hc : cf i = runD cf' xDraw) {S : Sto} {b : Nat} {many : Int} (h : Dk b S) (hb : b < 1000000) (hm : 0 < many) (hm2 : many ≤ 100000000000000000000) {Q : Tv → Sto → Prop}
    (q : ∀ (v : Int) S', 0 ≤ v → v < many → Dk (b + 1) S' → Grow S S' → Q (.int v) S') : (cf i [.cell 1, .int many] S).wp Q := by
  rw [hc]
  refine wp_mono (draw_ok h hm (small_9000 (by omega) (by omega)) hb) fun t S' ⟨v, e, v0, v1, d, o⟩ => ?_
  subst e
  exact q v S' v0 v1 d o.grow
theorem pick_wp {cf cf' cf'' : Nat → List Tv → M Tv} {i k : Nat} (hc : cf i = runD cf' (xPick k)) (hk : cf' k = runD cf'' xDraw) {S : Sto} {b : Nat} {ts : List Tv} (h : Dk b S) (hb : b < 1000000) (h0 : ts ≠ []) (hl : ts.length ≤ 1000) {Q : Tv → Sto → Prop}
    (q : ∀ t S', t ∈ ts → Dk (b + 1) S' → Grow S S' → Q t S') : (cf i [.cell 1, .lst ts] S).wp Q := by
  rw [hc]
  exact wp_mono (pick_ok (.inr ⟨cf'', hk⟩) h hb h0 hl) fun t S' ⟨e, d, o⟩ => q t S' e d o.grow
/-- a def that draws -/
theorem run_draw {cf : Nat → List Tv → M Tv} {d : Df} {as : List Tv} {S : Sto} {b b' : Nat} {V : Tv → Prop} (hl : as.length = d.k) (hd : Dk b S) (hb : b ≤ b')
    (h : (exs cf Fu d.body (as.map some ++ List.replicate (d.n - d.k) none) S).wp { nx := fun _ _ => False, rt := fun t S' => V t ∧ Dk b' S' ∧ Grow S S' }) : (runD cf d as S).wp fun t S' => V t ∧ Dk b' S' ∧ Grow S S' := by
  refine run_wp hl (sr_mono h (fun _ _ q => q.elim) (fun t S' q => ?_) (fun _ _ q => q) fun _ _ q => q)
  show if S'.take S.length = S ∧ t.noCell = true then _ else _
  split
  · exact ⟨q.1, hd.mono hb, Grow.refl S⟩
  · exact q
/-- a comprehension whose items are drawn -/
theorem comp_drawn {tg : Tg} {env : Env} {cf : Nat → List Tv → M Tv} {elt : Env → M Tv} {ts : List Tv} {S : Sto} {b k : Nat} (V : Tv → Tv → Prop) (hb : b + k * ts.length ≤ 900000) (d : Dk b S)
    (step : ∀ t ∈ ts, ∀ b S', b + k ≤ 900000 → Dk b S' → Grow S S' → match setTg tg t env with
      | some e => (elt e S').wp fun y S'' => V t y ∧ Dk (b + k) S'' ∧ Grow S' S''
      | none => False) {QL : List Tv → Sto → Prop} (q : ∀ ys S', ys.length = ts.length → (∀ p ∈ ts.zip ys, V p.1 p.2) → Dk (b + k * ts.length) S' → Grow S S' → QL ys S') :
    (compL [] tg env (ev cf .nop).t elt ts S).wp QL := by
  induction ts generalizing S b QL with
  | nil =>
    simp only [compL]
    rw [if_pos (show stays [] S = true from rfl)]
    rw [wp_ok]
    exact q [] S rfl (fun p hp => by cases hp) (d.mono (by simp)) (Grow.refl S)
  | cons t r ih =>
    have hk : k * (t :: r).length = k + k * r.length := by rw [List.length_cons, Nat.mul_succ, Nat.add_comm]
    rw [hk] at hb
    simp only [compL]
    rw [if_pos (show stays [] S = true from rfl)]
    have z := step t List.mem_cons_self b S (by omega) d (Grow.refl S)
    cases hs : setTg tg t env with
    | none => rw [hs] at z; exact z.elim
    | some e =>
      rw [hs] at z
      have z : (elt e S).wp fun y S'' => V t y ∧ Dk (b + k) S'' ∧ Grow S S'' := z
      simp only [wp_bnd, wp_calm]
      show (((ev cf .nop).t e S).wp fun k S' => _)
      rw [t_nop]
      simp only [if_true, wp_bnd, wp_calm]
      refine wp_mono z fun y S1 ⟨hv, d1, g1⟩ => ?_
      refine ih (b := b + k) (by omega) d1 (fun u hu b' S' hb' d' g' => step u (List.mem_cons_of_mem _ hu) b' S' hb' d' (g1.trans g')) fun ys S2 hl hV d2 g2 => ?_
      rw [wp_ret]
      refine q (y :: ys) S2 (by simp [hl]) (fun p hp => ?_) ?_ (g1.trans g2)
      · rw [List.zip_cons_cons] at hp
        rcases List.mem_cons.mp hp with e | e
        · subst e; exact hv
        · exact hV p e
      · rw [hk, ← Nat.add_assoc]; exact d2
/-- a list of numbers in a tuple -/
theorem ints_in {ys : List Tv} {P : Int → Prop} (h : ∀ y ∈ ys, ∃ i, y = Tv.int i ∧ P i) : ∃ ns : List Int, ys = ns.map Tv.int ∧ ∀ n ∈ ns, P n := by
  induction ys with
  | nil => exact ⟨[], rfl, fun n h => by cases h⟩
  | cons y r ih =>
    obtain ⟨i, rfl, hi⟩ := h y List.mem_cons_self
    obtain ⟨ns, rfl, hn⟩ := ih fun y hy => h y (List.mem_cons_of_mem _ hy)
    exact ⟨i :: ns, rfl, fun n hm => by
      rcases List.mem_cons.mp hm with e | e
      · subst e; exact hi
      · exact hn n e⟩
theorem zip_right {α β : Type} {P : β → Prop} : ∀ {ts : List α} {ys : List β}, ys.length = ts.length → (∀ p ∈ ts.zip ys, P p.2) → ∀ y ∈ ys, P y
  | [], [], _, _, y, h => by cases h
  | [], _ :: _, h, _, _, _ => by simp at h
  | _ :: _, [], _, _, y, h => by cases h
  | t :: ts, y0 :: ys, hl, h, y, hy => by
    rcases List.mem_cons.mp hy with e | e
    · subst e; exact h (t, y) (by simp)
    · exact zip_right (ts := ts) (ys := ys) (by simpa using hl) (fun p hp => h p (by rw [List.zip_cons_cons]; exact List.mem_cons_of_mem _ hp)) y e
theorem tup_lst {S : Sto} {xs : List Tv} : primV .tuple S [.lst xs] = some (.tup xs) := rfl
end Mp
namespace Mp
/-! ### spread: both ways tell the same -/
theorem run_law {cf : Nat → List Tv → M Tv} {d : Df} {as : List Tv} {S : Sto} (hl : as.length = d.k)
    (h : (exs cf Fu d.body (as.map some ++ List.replicate (d.n - d.k) none) S).wp { nx := fun _ _ => False, rt := fun t _ => t = .bl true }) : ∃ S', runD cf d as S = .ok (.bl true) S' := by
  have z : (runD cf d as S).wp fun t _ => t = .bl true := by
    refine run_wp hl (sr_mono h (fun _ _ q => q.elim) (fun t S' q => ?_) (fun _ _ q => q) fun _ _ q => q)
    show if S'.take S.length = S ∧ t.noCell = true then _ else _
    split <;> exact q
  obtain ⟨t, S', e, rfl⟩ := wp_get z
  exact ⟨S', e⟩
theorem ne_str {S : Sto} {x : PySem.Str} : cmpV .ne S (.str x) (.str x) = some false := by
  show (some (x == x)).map (!·) = _
  simp
theorem repr_ok {S : Sto} {t : Tv} (h1 : thaw S t = some t) (h2 : Tv.rOk 16 t = true) (h3 : Tv.bulk t ≤ 20000) : primV .repr S [t] = some (.str (Tv.shown t)) := by
  show reprV S t = _
  unfold reprV
  rw [h1]
  simp only
  rw [if_pos ⟨h2, h3⟩]
end Mp
namespace Qr
/-! ### rows of integers, reduced: plain -/
def gcdL : List Int → Nat
  | [] => 0
  | x :: r => Nat.gcd x.natAbs (gcdL r)
def isZ (r : List Int) : Bool := !(r.any fun n => !(n == 0))
/-- the place of the first number other than 0 -/
def fp : List Int → Nat
  | [] => 0
  | x :: r => if x = 0 then fp r + 1 else 0
def at' (r : List Int) (p : Nat) : Int := r.getD p 0
def sg (x : Int) : Int := if 0 < x then 1 else -1
/-- a times r, plus t times o -/
def comb (a t : Int) (r o : List Int) : List Int := List.zipWith (fun x y => a * x + t * y) r o
def step (r o : List Int) : List Int := comb (sg (at' o (fp o)) * at' o (fp o)) (0 - sg (at' o (fp o)) * at' r (fp o)) r o
def clear (r : List Int) : List (List Int) → List Int
  | [] => r
  | o :: R => clear (step r o) R
def low (r : List Int) : List Int := if gcdL r = 0 then r else r.map fun x => x / (gcdL r : Int)
def push (R : List (List Int)) (r : List Int) : List (List Int) := if isZ (low (clear r R)) = true then R else R ++ [low (clear r R)]
def dot : List Int → List Int → Int
  | x :: r, y :: s => x * y + dot r s
  | _, _ => 0
theorem isZ_iff : ∀ {r : List Int}, isZ r = true ↔ ∀ x ∈ r, x = 0 := by
  intro r
  unfold isZ
  rw [Bool.not_eq_true', List.any_eq_false]
  constructor
  · intro h x hx; simpa using h x hx
  · intro h x hx; simp [h x hx]
theorem gcdL_zero : ∀ {r : List Int}, gcdL r = 0 ↔ ∀ x ∈ r, x = 0
  | [] => by simp [gcdL]
  | x :: r => by
    simp only [gcdL, Nat.gcd_eq_zero_iff, gcdL_zero (r := r), List.mem_cons, forall_eq_or_imp]
    rw [Int.natAbs_eq_zero]
theorem gcdL_dvd : ∀ {r : List Int} {x : Int}, x ∈ r → (gcdL r : Int) ∣ x
  | y :: r, x, h => by
    rcases List.mem_cons.mp h with e | e
    · subst e
      exact Int.ofNat_dvd_left.mpr (Nat.gcd_dvd_left _ _)
    · exact Int.dvd_trans (Int.ofNat_dvd.mpr (Nat.gcd_dvd_right _ _)) (gcdL_dvd e)
theorem comb_len {a t : Int} {r o : List Int} (h : r.length = o.length) : (comb a t r o).length = r.length := by
  unfold comb
  rw [List.length_zipWith, h, Nat.min_self]
theorem step_len {r o : List Int} (h : r.length = o.length) : (step r o).length = r.length := comb_len h
theorem clear_len : ∀ {R : List (List Int)} {r : List Int}, (∀ o ∈ R, o.length = r.length) → (clear r R).length = r.length
  | [], r, _ => rfl
  | o :: R, r, h => by
    have e := step_len (r := r) (o := o) (h o List.mem_cons_self).symm
    rw [clear, clear_len (r := step r o) (fun u hu => by rw [e]; exact h u (List.mem_cons_of_mem _ hu)), e]
theorem low_len {r : List Int} : (low r).length = r.length := by
  unfold low
  split
  · rfl
  · rw [List.length_map]
theorem at_comb {a t : Int} : ∀ {r o : List Int} {p : Nat}, r.length = o.length → at' (comb a t r o) p = a * at' r p + t * at' o p
  | [], [], p, _ => by simp [comb, at']
  | x :: r, y :: o, 0, _ => by simp [comb, at']
  | x :: r, y :: o, p + 1, h => by
    have := at_comb (a := a) (t := t) (r := r) (o := o) (p := p) (by simpa using h)
    simpa [comb, at'] using this
theorem at_step_here {r o : List Int} (h : r.length = o.length) : at' (step r o) (fp o) = 0 := by
  unfold step
  rw [at_comb h]
  have e : sg (at' o (fp o)) * at' o (fp o) * at' r (fp o) = sg (at' o (fp o)) * at' r (fp o) * at' o (fp o) := by ac_rfl
  rw [Int.zero_sub, Int.neg_mul, e, Int.add_right_neg]
theorem at_step_zero {r o : List Int} {p : Nat} (h : r.length = o.length) (h1 : at' r p = 0) (h2 : at' o p = 0) : at' (step r o) p = 0 := by
  unfold step
  rw [at_comb h, h1, h2]
  simp
/-- the places of R's first numbers, and of later rows: 0 -/
def Tri (R : List (List Int)) : Prop := R.Pairwise fun o u => at' u (fp o) = 0
theorem clear_keep : ∀ {R : List (List Int)} {r : List Int} {p : Nat}, (∀ o ∈ R, o.length = r.length) → at' r p = 0 → (∀ o ∈ R, at' o p = 0) → at' (clear r R) p = 0
  | [], r, p, _, h, _ => h
  | o :: R, r, p, hl, h, ho => by
    have e := step_len (r := r) (o := o) (hl o List.mem_cons_self).symm
    exact clear_keep (R := R) (r := step r o) (fun u hu => by rw [e]; exact hl u (List.mem_cons_of_mem _ hu)) (at_step_zero (hl o List.mem_cons_self).symm h (ho o List.mem_cons_self)) fun u hu => ho u (List.mem_cons_of_mem _ hu)
theorem clear_zero : ∀ {R : List (List Int)} {r : List Int}, (∀ o ∈ R, o.length = r.length) → Tri R → ∀ o ∈ R, at' (clear r R) (fp o) = 0
  | o :: R, r, hl, ht, u, hu => by
    have e := step_len (r := r) (o := o) (hl o List.mem_cons_self).symm
    have hl' : ∀ u ∈ R, u.length = (step r o).length := fun u hu => by rw [e]; exact hl u (List.mem_cons_of_mem _ hu)
    obtain ⟨h1, h2⟩ := List.pairwise_cons.mp ht
    rcases List.mem_cons.mp hu with z | z
    · subst z
      rw [clear]
      exact clear_keep hl' (at_step_here (hl u List.mem_cons_self).symm) h1
    · exact clear_zero hl' h2 u z
theorem at_map {g : Int} : ∀ {r : List Int} {p : Nat}, at' (r.map fun x => x / g) p = at' r p / g := by
  intro r p
  unfold at'
  rw [List.getD_eq_getElem?_getD, List.getD_eq_getElem?_getD, List.getElem?_map]
  cases r[p]? <;> simp
theorem at_low {r : List Int} {p : Nat} (h : at' r p = 0) : at' (low r) p = 0 := by
  unfold low
  split
  · exact h
  · rw [at_map, h, Int.zero_ediv]
theorem tri_push {R : List (List Int)} {r : List Int} (hl : ∀ o ∈ R, o.length = r.length) (ht : Tri R) : Tri (push R r) := by
  unfold push
  split
  · exact ht
  · refine List.pairwise_append.mpr ⟨ht, List.pairwise_singleton _ _, fun o ho u hu => ?_⟩
    rw [List.mem_singleton.mp hu]
    exact at_low (clear_zero hl ht o ho)
/-! ### signs -/
/-- the sign of the first row that is not 0 there -/
def lex (v : List Int) : List (List Int) → Int
  | [] => 0
  | r :: R => if dot r v = 0 then lex v R else (dot r v).sign
/-- reduced rows: of one length, not 0, 0 at the first places of earlier ones -/
structure Ok (n : Nat) (R : List (List Int)) : Prop where
  len : ∀ o ∈ R, o.length = n
  nz : ∀ o ∈ R, isZ o = false
  tri : Tri R
theorem Ok.push {n : Nat} {R : List (List Int)} {r : List Int} (h : Ok n R) (hr : r.length = n) : Ok n (push R r) := by
  have hl : ∀ o ∈ R, o.length = r.length := fun o ho => by rw [h.len o ho, hr]
  refine ⟨fun o ho => ?_, fun o ho => ?_, tri_push hl h.tri⟩
  · unfold Qr.push at ho
    split at ho
    · exact h.len o ho
    · rcases List.mem_append.mp ho with k | k
      · exact h.len o k
      · rw [List.mem_singleton.mp k, low_len, clear_len hl, hr]
  · unfold Qr.push at ho
    split at ho
    · exact h.nz o ho
    · rename_i hq
      rcases List.mem_append.mp ho with k | k
      · exact h.nz o k
      · rw [List.mem_singleton.mp k]
        simpa using hq
theorem Ok.nil {n : Nat} : Ok n [] := ⟨fun o h => (List.not_mem_nil h).elim, fun o h => (List.not_mem_nil h).elim, List.Pairwise.nil⟩
/-! ### reduced rows reduce to themselves -/
theorem gcdL_mul {k : Int} : ∀ {r : List Int}, gcdL (r.map fun x => k * x) = k.natAbs * gcdL r
  | [] => by simp [gcdL]
  | x :: r => by
    simp only [List.map_cons, gcdL, gcdL_mul (k := k) (r := r), Int.natAbs_mul]
    exact Nat.gcd_mul_left _ _ _
theorem gcdL_low {r : List Int} (h : gcdL r ≠ 0) : gcdL (low r) = 1 := by
  have e : r = (low r).map fun x => (gcdL r : Int) * x := by
    unfold low
    rw [if_neg h, List.map_map]
    conv => lhs; rw [← List.map_id r]
    apply List.map_congr_left
    intro x hx
    show x = (gcdL r : Int) * (x / (gcdL r : Int))
    rw [Int.mul_ediv_cancel' (gcdL_dvd hx)]
  have e2 := congrArg gcdL e
  rw [gcdL_mul] at e2
  have e3 : ((gcdL r : Nat) : Int).natAbs = gcdL r := by simp
  rw [e3] at e2
  have hp : 0 < gcdL r := by omega
  exact (Nat.eq_of_mul_eq_mul_left hp (by omega : gcdL r * gcdL (low r) = gcdL r * 1))
/-- rows that are reduced -/
structure Full (n : Nat) (R : List (List Int)) : Prop extends Ok n R where
  prim : ∀ o ∈ R, gcdL o = 1
theorem Full.push {n : Nat} {R : List (List Int)} {r : List Int} (h : Full n R) (hr : r.length = n) : Full n (push R r) := by
  refine ⟨h.toOk.push hr, fun o ho => ?_⟩
  unfold Qr.push at ho
  split at ho
  · exact h.prim o ho
  · rename_i hq
    rcases List.mem_append.mp ho with k | k
    · exact h.prim o k
    · rw [List.mem_singleton.mp k]
      refine gcdL_low fun z => hq ?_
      have e : low (Qr.clear r R) = Qr.clear r R := by unfold low; rw [if_pos z]
      rw [e]
      exact isZ_iff.mpr (gcdL_zero.mp z)
end Qr
namespace Mp
/-! ### sizes -/
def Bd (k : Nat) (x : Int) : Prop := x.natAbs < 2 ^ k
theorem Bd.mono {k l : Nat} {x : Int} (h : Bd k x) (hl : k ≤ l) : Bd l x := Nat.lt_of_lt_of_le h (Nat.pow_le_pow_right (by decide) hl)
theorem Bd.log {k : Nat} {x : Int} (h : Bd k x) : x.natAbs.log2 ≤ k := by
  by_cases hz : x.natAbs = 0
  · rw [hz]
    show Nat.log2 0 ≤ k
    rw [Nat.log2_zero]
    omega
  · exact Nat.le_of_lt ((Nat.log2_lt hz).mpr h)
theorem Bd.mul {k l : Nat} {x y : Int} (h : Bd k x) (g : Bd l y) : Bd (k + l) (x * y) := by
  unfold Bd
  rw [Int.natAbs_mul, Nat.pow_add]
  exact Nat.mul_lt_mul'' h g
theorem Bd.add {k : Nat} {x y : Int} (h : Bd k x) (g : Bd k y) : Bd (k + 1) (x + y) := by
  unfold Bd at *
  have := Int.natAbs_add_le x y
  rw [Nat.pow_succ]
  omega
theorem Bd.neg {k : Nat} {x : Int} (h : Bd k x) : Bd k (-x) := by
  unfold Bd at *
  rw [Int.natAbs_neg]
  exact h
theorem Bd.of {k : Nat} {x : Int} {m : Nat} (h : x.natAbs ≤ m) (hm : m < 2 ^ k) : Bd k x := Nat.lt_of_le_of_lt h hm
theorem mul_bd {k l : Nat} {x y : Int} (h : Bd k x) (g : Bd l y) (hs : k + l ≤ 900000) {S : Sto} : binV .mul S (.int x) (.int y) = some (.int (x * y)) :=
  mul_int (by have := h.log; have := g.log; omega)
theorem gmu_bd {o f k : Nat} (ho : o < 2 ^ k) (hf : f < 2 ^ k) : gmu o f ≤ 2 * k + 2 := by
  unfold gmu
  by_cases h : o = 0
  · rw [if_pos h]; omega
  · rw [if_neg h]
    have h2 : (o * f).log2 ≤ 2 * k := by
      by_cases hz : o * f = 0
      · rw [hz, Nat.log2_zero]; omega
      · refine Nat.le_of_lt ((Nat.log2_lt hz).mpr ?_)
        rw [Nat.two_mul, Nat.pow_add]
        exact Nat.mul_lt_mul'' ho hf
    split <;> omega
theorem gcdF_eq : ∀ (ns : List Int) (f : Nat), gcdF f ns = Nat.gcd f (Qr.gcdL ns)
  | [], f => by simp [gcdF, Qr.gcdL]
  | n :: r, f => by
    rw [gcdF, gcdF_eq r, Qr.gcdL, Nat.gcd_comm n.natAbs f, Nat.gcd_assoc]
theorem gcdF0 (ns : List Int) : gcdF 0 ns = Qr.gcdL ns := by rw [gcdF_eq, Nat.gcd_zero_left]
theorem pow_pred {k : Nat} {n : Nat} (h : n < 2 ^ k) : n ≤ 2 ^ k - 1 := by omega
/-- the divisor of the program, of a row or a list -/
theorem divisor_bd {cf : Nat → List Tv → M Tv} {S : Sto} {ns : List Int} {k : Nat} (hb : ∀ n ∈ ns, Bd k n) (hk : k ≤ 90000) : runD cf xDivisor [tsI ns] S = .ok (.int (Qr.gcdL ns)) S := by
  rw [← gcdF0]
  refine divisor_ok (B := 2 ^ k - 1) (fun n hn f hf => ?_) fun n hn => pow_pred (hb n hn)
  have hp : 0 < 2 ^ k := Nat.two_pow_pos k
  have := gmu_bd (o := n.natAbs) (f := f) (k := k) (hb n hn) (by omega)
  have : Fu = 1000000000 := rfl
  omega
theorem lawDivisor_bd {cf : Nat → List Tv → M Tv} {S : Sto} {ns : List Int} {k : Nat} {src : Tv} (hs : srcOf S src = some (ns.map Tv.int, [])) (hb : ∀ n ∈ ns, Bd k n) (hk : k ≤ 990) : runD cf xLawDivisor [src] S = .ok (.int (Qr.gcdL ns)) S := by
  rw [← gcdF0]
  refine lawDivisor_src hs (B := 2 ^ k - 1) (fun n hn f hf => ?_) fun n hn => pow_pred (hb n hn)
  have hp : 0 < 2 ^ k := Nat.two_pow_pos k
  have := gmu_bd (o := n.natAbs) (f := f) (k := k) (hb n hn) (by omega)
  omega
theorem gcdL_bd {ns : List Int} {k : Nat} (hb : ∀ n ∈ ns, Bd k n) : Qr.gcdL ns < 2 ^ k := by
  by_cases h : Qr.gcdL ns = 0
  · rw [h]; exact Nat.two_pow_pos k
  · have : ¬ ∀ x ∈ ns, x = 0 := fun z => h (Qr.gcdL_zero.mpr z)
    obtain ⟨x, hx⟩ := Classical.not_forall.mp this
    obtain ⟨hm, hn⟩ := Classical.not_imp.mp hx
    have := Nat.le_of_dvd (by omega) (Int.ofNat_dvd_left.mp (Qr.gcdL_dvd hm))
    exact Nat.lt_of_le_of_lt this (hb x hm)
/-- a row divided by its divisor: of tuples and of lists -/
theorem lowest_bd {cf : Nat → List Tv → M Tv} {d : Nat} {S : Sto} {ns : List Int} {k : Nat} {src : Tv} (hs : src = tsI ns ∨ src = .lst (ns.map Tv.int)) (hk : ∀ S, cf d [src] S = .ok (.int (Qr.gcdL ns)) S) (hb : ∀ n ∈ ns, Bd k n) (hk2 : k ≤ 8000) (hn : ns.length ≤ 1000) :
    runD cf (xLowest d) [src] S = .ok (tsI (Qr.low ns)) S := by
  refine run_eq rfl ?_
  show (exs cf Fu (xLowest d).body [some src, none, none] S).wp _
  unfold xLowest
  have sr : srcOf S src = some (ns.map Tv.int, []) := by rcases hs with rfl | rfl <;> rfl
  have tp : primV .tuple S [src] = some (tsI ns) := by rcases hs with rfl | rfl <;> rfl
  (try simp only [exs_nil, q_asg, kA_eq, kR_eq, q_drop, kD_eq, q_ret, q_if, kI_t, kI_f, q_set, kS_eq, q_pass, q_brk, q_cont, q_for, kF_eq, List.cons_append, List.nil_append, w_var, t_var, w_int, w_str, w_bl, w_non, w_gl, w_bin, w_neg, t_cmp, w_cmp, t_chain, w_chain, t_isC, w_isC, w_isi, t_isi, t_bop1, t_bop, w_bop1, w_bop, t_nt, w_nt, w_ite, t_ite, w_nil, w_cons, a_tup, w_fz, w_mu, a_disp, a_comp, w_ofSeq, w_call, w_prim, w_ix, w_sl, w_rev, w_pop, w_popAt, w_app, e_nop, e_int, e_var, e_bin, i_seq, a_rng, rngA_int, a_rng2, rngB_int, a_zip, zipA_some, a_enum, enA_some, src_tsI, src_lsI, t_call, t_prim, tru_bl, opt_some, t_nop, List.getElem?_cons_zero, List.getElem?_cons_succ, setTg, setTgs, List.set_cons_zero, List.set_cons_succ, wp_ok, wipeE, len0, len1, len2, len3, len4, len5, len6, len7, len8, len9, len10, if_true, if_false, Bool.false_eq_true, eq_int, ne_int, gt_int, lt_int', le_int', ge_int', add_int, sub_int, abs_int, int_int, Option.map_some, src_lst, src_tup, ix_t0, ix_t1, ix_t2, ix_t3, ix_l0, ix_l1, ix_l2, is_non, and_true, true_and, hk])
  unfold Qr.low
  by_cases hz : Qr.gcdL ns = 0
  · rw [hz]
    rw [if_neg (by decide), if_pos rfl]
    (try simp only [exs_nil, q_asg, kA_eq, kR_eq, q_drop, kD_eq, q_ret, q_if, kI_t, kI_f, q_set, kS_eq, q_pass, q_brk, q_cont, q_for, kF_eq, List.cons_append, List.nil_append, w_var, t_var, w_int, w_str, w_bl, w_non, w_gl, w_bin, w_neg, t_cmp, w_cmp, t_chain, w_chain, t_isC, w_isC, w_isi, t_isi, t_bop1, t_bop, w_bop1, w_bop, t_nt, w_nt, w_ite, t_ite, w_nil, w_cons, a_tup, w_fz, w_mu, a_disp, a_comp, w_ofSeq, w_call, w_prim, w_ix, w_sl, w_rev, w_pop, w_popAt, w_app, e_nop, e_int, e_var, e_bin, i_seq, a_rng, rngA_int, a_rng2, rngB_int, a_zip, zipA_some, a_enum, enA_some, src_tsI, src_lsI, t_call, t_prim, tru_bl, opt_some, t_nop, List.getElem?_cons_zero, List.getElem?_cons_succ, setTg, setTgs, List.set_cons_zero, List.set_cons_succ, wp_ok, wipeE, len0, len1, len2, len3, len4, len5, len6, len7, len8, len9, len10, if_true, if_false, Bool.false_eq_true, eq_int, ne_int, gt_int, lt_int', le_int', ge_int', add_int, sub_int, abs_int, int_int, Option.map_some, src_lst, src_tup, ix_t0, ix_t1, ix_t2, ix_t3, ix_l0, ix_l1, ix_l2, is_non, and_true, true_and, tp])
  · have hp : (0 : Int) < (Qr.gcdL ns : Int) := by omega
    rw [if_pos (decide_eq_true hp), if_neg hz]
    have hl : (Qr.gcdL ns).log2 < 9000 := by
      have h1 := gcdL_bd hb
      have := (Nat.log2_lt hz).mpr h1
      omega
    (try simp only [exs_nil, q_asg, kA_eq, kR_eq, q_drop, kD_eq, q_ret, q_if, kI_t, kI_f, q_set, kS_eq, q_pass, q_brk, q_cont, q_for, kF_eq, List.cons_append, List.nil_append, w_var, t_var, w_int, w_str, w_bl, w_non, w_gl, w_bin, w_neg, t_cmp, w_cmp, t_chain, w_chain, t_isC, w_isC, w_isi, t_isi, t_bop1, t_bop, w_bop1, w_bop, t_nt, w_nt, w_ite, t_ite, w_nil, w_cons, a_tup, w_fz, w_mu, a_disp, a_comp, w_ofSeq, w_call, w_prim, w_ix, w_sl, w_rev, w_pop, w_popAt, w_app, e_nop, e_int, e_var, e_bin, i_seq, a_rng, rngA_int, a_rng2, rngB_int, a_zip, zipA_some, a_enum, enA_some, src_tsI, src_lsI, t_call, t_prim, tru_bl, opt_some, t_nop, List.getElem?_cons_zero, List.getElem?_cons_succ, setTg, setTgs, List.set_cons_zero, List.set_cons_succ, wp_ok, wipeE, len0, len1, len2, len3, len4, len5, len6, len7, len8, len9, len10, if_true, if_false, Bool.false_eq_true, eq_int, ne_int, gt_int, lt_int', le_int', ge_int', add_int, sub_int, abs_int, int_int, Option.map_some, src_lst, src_tup, ix_t0, ix_t1, ix_t2, ix_t3, ix_l0, ix_l1, ix_l2, is_non, and_true, true_and, sr, len_map (f := Tv.int) (xs := ns) (by omega)])
    rw [comp_all (fun n => Tv.int (n / (Qr.gcdL ns : Int))) rfl (fun n hn => by (try simp only [exs_nil, q_asg, kA_eq, kR_eq, q_drop, kD_eq, q_ret, q_if, kI_t, kI_f, q_set, kS_eq, q_pass, q_brk, q_cont, q_for, kF_eq, List.cons_append, List.nil_append, w_var, t_var, w_int, w_str, w_bl, w_non, w_gl, w_bin, w_neg, t_cmp, w_cmp, t_chain, w_chain, t_isC, w_isC, w_isi, t_isi, t_bop1, t_bop, w_bop1, w_bop, t_nt, w_nt, w_ite, t_ite, w_nil, w_cons, a_tup, w_fz, w_mu, a_disp, a_comp, w_ofSeq, w_call, w_prim, w_ix, w_sl, w_rev, w_pop, w_popAt, w_app, e_nop, e_int, e_var, e_bin, i_seq, a_rng, rngA_int, a_rng2, rngB_int, a_zip, zipA_some, a_enum, enA_some, src_tsI, src_lsI, t_call, t_prim, tru_bl, opt_some, t_nop, List.getElem?_cons_zero, List.getElem?_cons_succ, setTg, setTgs, List.set_cons_zero, List.set_cons_succ, wp_ok, wipeE, len0, len1, len2, len3, len4, len5, len6, len7, len8, len9, len10, if_true, if_false, Bool.false_eq_true, eq_int, ne_int, gt_int, lt_int', le_int', ge_int', add_int, sub_int, abs_int, int_int, Option.map_some, src_lst, src_tup, ix_t0, ix_t1, ix_t2, ix_t3, ix_l0, ix_l1, ix_l2, is_non, and_true, true_and, fdiv_int (S := S) (i := n) hp hl]))]
    (try simp only [exs_nil, q_asg, kA_eq, kR_eq, q_drop, kD_eq, q_ret, q_if, kI_t, kI_f, q_set, kS_eq, q_pass, q_brk, q_cont, q_for, kF_eq, List.cons_append, List.nil_append, w_var, t_var, w_int, w_str, w_bl, w_non, w_gl, w_bin, w_neg, t_cmp, w_cmp, t_chain, w_chain, t_isC, w_isC, w_isi, t_isi, t_bop1, t_bop, w_bop1, w_bop, t_nt, w_nt, w_ite, t_ite, w_nil, w_cons, a_tup, w_fz, w_mu, a_disp, a_comp, w_ofSeq, w_call, w_prim, w_ix, w_sl, w_rev, w_pop, w_popAt, w_app, e_nop, e_int, e_var, e_bin, i_seq, a_rng, rngA_int, a_rng2, rngB_int, a_zip, zipA_some, a_enum, enA_some, src_tsI, src_lsI, t_call, t_prim, tru_bl, opt_some, t_nop, List.getElem?_cons_zero, List.getElem?_cons_succ, setTg, setTgs, List.set_cons_zero, List.set_cons_succ, wp_ok, wipeE, len0, len1, len2, len3, len4, len5, len6, len7, len8, len9, len10, if_true, if_false, Bool.false_eq_true, eq_int, ne_int, gt_int, lt_int', le_int', ge_int', add_int, sub_int, abs_int, int_int, Option.map_some, src_lst, src_tup, ix_t0, ix_t1, ix_t2, ix_t3, ix_l0, ix_l1, ix_l2, is_non, and_true, true_and, tup_lst])
    show Tv.tup _ = Tv.tup _
    rw [List.map_map]
    rfl
/-! ### the rows' defs -/
def xPlus : Df := ⟨5, 3,
  [
    .ret (.prim .tuple [(.fz (.comp [3, 4] (.bin .add (.var 3) (.bin .mul (.var 2) (.var 4))) (.tup [(.v 3), (.v 4)]) (.zip (.var 0) (.var 1)) .nop))])]⟩
theorem plus_bd {cf : Nat → List Tv → M Tv} {S : Sto} {a b : List Int} {t : Int} {k l : Nat} (hk : Bd k t) (hb : ∀ y ∈ b, Bd l y) (hs : k + l ≤ 900000) (hl : a.length ≤ 1000) :
    runD cf xPlus [tsI a, tsI b, .int t] S = .ok (tsI (List.zipWith (fun x y => x + t * y) a b)) S := by
  refine run_eq rfl ?_
  show (exs cf Fu xPlus.body [some (tsI a), some (tsI b), some (.int t), none, none] S).wp _
  unfold xPlus
  have l1 : (((a.zip b).map pr).length ≤ lim) = True := len_map (by rw [List.length_zip]; omega)
  (try simp only [exs_nil, q_asg, kA_eq, kR_eq, q_drop, kD_eq, q_ret, q_if, kI_t, kI_f, q_set, kS_eq, q_pass, q_brk, q_cont, q_for, kF_eq, List.cons_append, List.nil_append, w_var, t_var, w_int, w_str, w_bl, w_non, w_gl, w_bin, w_neg, t_cmp, w_cmp, t_chain, w_chain, t_isC, w_isC, w_isi, t_isi, t_bop1, t_bop, w_bop1, w_bop, t_nt, w_nt, w_ite, t_ite, w_nil, w_cons, a_tup, w_fz, w_mu, a_disp, a_comp, w_ofSeq, w_call, w_prim, w_ix, w_sl, w_rev, w_pop, w_popAt, w_app, e_nop, e_int, e_var, e_bin, i_seq, a_rng, rngA_int, a_rng2, rngB_int, a_zip, zipA_some, a_enum, enA_some, src_tsI, src_lsI, t_call, t_prim, tru_bl, opt_some, t_nop, List.getElem?_cons_zero, List.getElem?_cons_succ, setTg, setTgs, List.set_cons_zero, List.set_cons_succ, wp_ok, wipeE, len0, len1, len2, len3, len4, len5, len6, len7, len8, len9, len10, if_true, if_false, Bool.false_eq_true, eq_int, ne_int, gt_int, lt_int', le_int', ge_int', add_int, sub_int, abs_int, int_int, Option.map_some, src_lst, src_tup, ix_t0, ix_t1, ix_t2, ix_t3, ix_l0, ix_l1, ix_l2, is_non, and_true, true_and, tsI, zipT_pr, l1])
  rw [comp_all (fun p : Int × Int => Tv.int (p.1 + t * p.2)) rfl (fun p hp => by
    have m1 : ∀ S, binV .mul S (.int t) (.int p.2) = some (.int (t * p.2)) := fun S => mul_bd hk (hb _ (List.of_mem_zip hp).2) hs
    (try simp only [exs_nil, q_asg, kA_eq, kR_eq, q_drop, kD_eq, q_ret, q_if, kI_t, kI_f, q_set, kS_eq, q_pass, q_brk, q_cont, q_for, kF_eq, List.cons_append, List.nil_append, w_var, t_var, w_int, w_str, w_bl, w_non, w_gl, w_bin, w_neg, t_cmp, w_cmp, t_chain, w_chain, t_isC, w_isC, w_isi, t_isi, t_bop1, t_bop, w_bop1, w_bop, t_nt, w_nt, w_ite, t_ite, w_nil, w_cons, a_tup, w_fz, w_mu, a_disp, a_comp, w_ofSeq, w_call, w_prim, w_ix, w_sl, w_rev, w_pop, w_popAt, w_app, e_nop, e_int, e_var, e_bin, i_seq, a_rng, rngA_int, a_rng2, rngB_int, a_zip, zipA_some, a_enum, enA_some, src_tsI, src_lsI, t_call, t_prim, tru_bl, opt_some, t_nop, List.getElem?_cons_zero, List.getElem?_cons_succ, setTg, setTgs, List.set_cons_zero, List.set_cons_succ, wp_ok, wipeE, len0, len1, len2, len3, len4, len5, len6, len7, len8, len9, len10, if_true, if_false, Bool.false_eq_true, eq_int, ne_int, gt_int, lt_int', le_int', ge_int', add_int, sub_int, abs_int, int_int, Option.map_some, src_lst, src_tup, ix_t0, ix_t1, ix_t2, ix_t3, ix_l0, ix_l1, ix_l2, is_non, and_true, true_and, pr, m1]))]
  (try simp only [exs_nil, q_asg, kA_eq, kR_eq, q_drop, kD_eq, q_ret, q_if, kI_t, kI_f, q_set, kS_eq, q_pass, q_brk, q_cont, q_for, kF_eq, List.cons_append, List.nil_append, w_var, t_var, w_int, w_str, w_bl, w_non, w_gl, w_bin, w_neg, t_cmp, w_cmp, t_chain, w_chain, t_isC, w_isC, w_isi, t_isi, t_bop1, t_bop, w_bop1, w_bop, t_nt, w_nt, w_ite, t_ite, w_nil, w_cons, a_tup, w_fz, w_mu, a_disp, a_comp, w_ofSeq, w_call, w_prim, w_ix, w_sl, w_rev, w_pop, w_popAt, w_app, e_nop, e_int, e_var, e_bin, i_seq, a_rng, rngA_int, a_rng2, rngB_int, a_zip, zipA_some, a_enum, enA_some, src_tsI, src_lsI, t_call, t_prim, tru_bl, opt_some, t_nop, List.getElem?_cons_zero, List.getElem?_cons_succ, setTg, setTgs, List.set_cons_zero, List.set_cons_succ, wp_ok, wipeE, len0, len1, len2, len3, len4, len5, len6, len7, len8, len9, len10, if_true, if_false, Bool.false_eq_true, eq_int, ne_int, gt_int, lt_int', le_int', ge_int', add_int, sub_int, abs_int, int_int, Option.map_some, src_lst, src_tup, ix_t0, ix_t1, ix_t2, ix_t3, ix_l0, ix_l1, ix_l2, is_non, and_true, true_and, tup_lst])
  show Tv.tup _ = Tv.tup _
  congr 1
  rw [← List.map_uncurry_zip_eq_zipWith, List.map_map]
  rfl
end Mp
namespace Mp
/-! ### a list of one's own at the store's end -/
theorem end_at {S : Sto} {o : Ob} : (S ++ [o])[S.length]? = some o := by simp
theorem src_cell {S : Sto} {n : Nat} {ts : List Tv} (h : S[n]? = some (.lst ts)) : srcOf S (.cell n) = some (ts, [(n, ts)]) := by simp only [srcOf, h]
theorem stays_cell {S : Sto} {n : Nat} {ts : List Tv} (h : S[n]? = some (.lst ts)) : stays [(n, ts)] S = true := by simp [stays, h]
theorem app_at {S : Sto} {n : Nat} {ts : List Tv} {y : Tv} {Q : Tv → Sto → Prop} (h : S[n]? = some (.lst ts)) (hl : ts.length ≤ 100000) : (appL (.cell n) y S).wp Q = Q .non (S.set n (.lst (ts ++ [y]))) := by
  have e : appL (.cell n) y S = .ok .non (S.set n (.lst (ts ++ [y]))) := by
    simp only [appL, h]
    rw [if_pos (by simp [lim]; omega)]
  rw [e, wp_ok]
theorem isZero_isZ {cf : Nat → List Tv → M Tv} {S : Sto} {ns : List Int} (hl : ns.length ≤ 1000) : runD cf xIsZero [tsI ns] S = .ok (.bl (Qr.isZ ns)) S := isZero_ok hl
end Mp
namespace Mp
/-! ### the law's own reduction -/
theorem ne_lst {S : Sto} {ns : List Int} : cmpV .ne S (lsI ns) (.lst []) = some (!ns.isEmpty) := by
  have d := dOks_ints 15 ns
  cases ns with
  | nil => simp [lsI, cmpV, eqS, eqS0, thaw, Tv.dOk, Tv.dOks, Tv.eqb, Tv.eqbs]
  | cons n r =>
    simp only [List.map_cons] at d
    simp [lsI, cmpV, eqS, eqS0, thaw, Tv.dOk, Tv.dOks, Tv.eqb, Tv.eqbs]
    exact (by simpa [Tv.dOks] using d : _ ∧ Tv.dOks 15 (r.map Tv.int) = true).2
end Mp
namespace Mp
/-! ### lists of one's own beside the deck -/
theorem Dk.two {b : Nat} {S : Sto} (d : Dk b S) : 2 ≤ S.length := by
  obtain ⟨⟨gs, cs, c, h0, h1, _⟩, hn⟩ := d
  have a := (List.getElem?_eq_some_iff.mp h0).1
  omega
theorem Dk.set {b n : Nat} {S : Sto} {o : Ob} (d : Dk b S) (h : 2 ≤ n) : Dk b (S.set n o) := by
  obtain ⟨⟨gs, cs, c, h0, h1, h2⟩, hn⟩ := d
  exact ⟨⟨gs, cs, c, by rw [set_ne (by omega)]; exact h0, by rw [set_ne (by omega)]; exact h1, h2⟩, hn⟩
theorem Dk.app {b : Nat} {S : Sto} {o : Ob} (d : Dk b S) : Dk b (S ++ [o]) := by
  have h := d.two
  obtain ⟨⟨gs, cs, c, h0, h1, h2⟩, hn⟩ := d
  exact ⟨⟨gs, cs, c, by rw [List.getElem?_append_left (by omega)]; exact h0, by rw [List.getElem?_append_left (by omega)]; exact h1, h2⟩, hn⟩
theorem Grow.app {S : Sto} {o : Ob} : Grow S (S ++ [o]) := ⟨by simp, fun n _ _ h => List.getElem?_append_left h⟩
theorem Grow.set {S S' : Sto} {n : Nat} {o : Ob} (g : Grow S S') (h : S.length ≤ n) : Grow S (S'.set n o) :=
  ⟨by rw [List.length_set]; exact g.le, fun m h1 h0 hm => by rw [set_ne (by omega)]; exact g.at' m h1 h0 hm⟩
/-- a list of one's own stands through draws -/
theorem Grow.own {S S' : Sto} {n : Nat} {o : Ob} (g : Grow S S') (h : S[n]? = some o) (h2 : 2 ≤ n) : S'[n]? = some o := by
  rw [g.at' n (by omega) (by omega) (List.getElem?_eq_some_iff.mp h).1]
  exact h
theorem comp_ints {ys : List Tv} {n : Nat} {ts : List Tv} {P : Int → Prop} (hl : ys.length = ts.length) (hn : ts.length = n) (h : ∀ p ∈ ts.zip ys, ∃ i, p.2 = Tv.int i ∧ P i) : ∃ ns : List Int, ys = ns.map Tv.int ∧ ns.length = n ∧ ∀ x ∈ ns, P x := by
  obtain ⟨ns, e, hp⟩ := ints_in (P := P) (zip_right hl h)
  refine ⟨ns, e, ?_, hp⟩
  rw [e, List.length_map] at hl
  omega
end Mp
namespace Mp
theorem bulks_ints : ∀ {ns : List Int}, Tv.bulks (ns.map Tv.int) = ns.length
  | [] => rfl
  | n :: ns => by
    rw [List.map_cons, Tv.bulks, bulks_ints, List.length_cons, show Tv.bulk (.int n) = 0 from rfl]
    omega
end Mp
namespace Mp
/-! ### the tables' entries, joined -/
theorem deck_dk {cf c : Nat → List Tv → M Tv} {ns : List Int} (h : cf 6 = runD c xDeck) (hl : ns.length ≤ 63) : (cf 6 [.scr (ns.map Tv.int)] []).wp fun t S => t = .cell 1 ∧ Dk 0 S := by
  rw [h]
  exact wp_mono (deck_ok hl) fun t S h => ⟨h.1, h.2.1⟩
end Mp
namespace Mp
/-! ### signs -/
theorem intsOf_map : ∀ ns : List Int, intsOf (ns.map Tv.int) = some ns
  | [] => rfl
  | n :: ns => by rw [List.map_cons, intsOf, intsOf_map ns]; rfl
theorem sum_ints {S : Sto} {ns : List Int} : primV .sum S [.lst (ns.map Tv.int)] = some (.int ns.sum) := by
  simp only [primV, seqOf, Option.bind_some, intsOf_map, Option.map_some]
theorem sum_dot : ∀ (r v : List Int), ((r.zip v).map fun p => p.1 * p.2).sum = Qr.dot r v
  | [], v => by cases v <;> rfl
  | x :: r, [] => rfl
  | x :: r, y :: v => by
    rw [List.zip_cons_cons, List.map_cons, List.sum_cons, sum_dot r v]
    rfl
/-! ### changes -/
end Mp
namespace Qp
/-! ### fractions as pairs: lowest forms, order by cross products -/
def red (a b : Int) : Int × Int := (a / (Int.gcd a b : Int), b / (Int.gcd a b : Int))
def le (p q : Int × Int) : Prop := p.1 * q.2 ≤ q.1 * p.2
def lt (p q : Int × Int) : Prop := p.1 * q.2 < q.1 * p.2
instance (p q : Int × Int) : Decidable (le p q) := inferInstanceAs (Decidable (_ ≤ _))
instance (p q : Int × Int) : Decidable (lt p q) := inferInstanceAs (Decidable (_ < _))
theorem le_refl (p : Int × Int) : le p p := Int.le_refl _
theorem le_trans {a b c : Int × Int} (ha : 0 < a.2) (hb : 0 < b.2) (hc : 0 < c.2) (h1 : le a b) (h2 : le b c) : le a c := by
  unfold le at *
  have e1 : a.1 * b.2 * c.2 ≤ b.1 * a.2 * c.2 := Int.mul_le_mul_of_nonneg_right h1 (by omega)
  have e2 : b.1 * c.2 * a.2 ≤ c.1 * b.2 * a.2 := Int.mul_le_mul_of_nonneg_right h2 (by omega)
  have x1 : a.1 * c.2 * b.2 = a.1 * b.2 * c.2 := by ac_rfl
  have x2 : b.1 * c.2 * a.2 = b.1 * a.2 * c.2 := by ac_rfl
  have x3 : c.1 * b.2 * a.2 = c.1 * a.2 * b.2 := by ac_rfl
  have e3 : a.1 * c.2 * b.2 ≤ c.1 * a.2 * b.2 := by omega
  exact Int.le_of_mul_le_mul_right e3 hb
section
end
/-- what the pairs (times, most) leave: the least and the greatest share -/
structure PR (L : List (Int × Int)) (low : Int × Int) (high : Option (Int × Int)) : Prop where
  loIn : low = (0, 1) ∨ ∃ p ∈ L, p.1 < 0 ∧ p.2 < 0 ∧ low = red (-p.2) (-p.1)
  loMax : ∀ p ∈ L, p.1 < 0 → le (-p.2, -p.1) low
  hiNo : high = none → ∀ p ∈ L, ¬ 0 < p.1
  hiIn : ∀ h, high = some h → ∃ p ∈ L, 0 < p.1 ∧ h = red p.2 p.1
  hiMin : ∀ h, high = some h → ∀ p ∈ L, 0 < p.1 → le h (p.2, p.1)
theorem PR.nil : PR [] (0, 1) none := ⟨.inl rfl, fun p h => (List.not_mem_nil h).elim, fun _ p h => (List.not_mem_nil h).elim, fun h e => (nomatch e), fun h e => (nomatch e)⟩
/-- a pair that leaves nothing -/
def bad (L : List (Int × Int)) : Prop := ∃ p ∈ L, p.1 = 0 ∧ p.2 < 0
end Qp
namespace Mp
def xDot : Df := ⟨4, 2,
  [
    .ret (.prim .sum [(.fz (.comp [2, 3] (.bin .mul (.var 2) (.var 3)) (.tup [(.v 2), (.v 3)]) (.zip (.var 0) (.var 1)) .nop))])]⟩
def xCost : Df := ⟨2, 2,
  [
    .ret (.call 25 [(.var 0), (.var 1)])]⟩
def xLawCost : Df := ⟨4, 2,
  [
    .ret (.prim .sum [(.fz (.comp [2, 3] (.bin .mul (.var 2) (.var 3)) (.tup [(.v 2), (.v 3)]) (.zip (.var 0) (.var 1)) .nop))])]⟩
/-! ### sums of products -/
theorem dot_bd {cf : Nat → List Tv → M Tv} {S : Sto} {a b : List Int} {k l : Nat} (ha : ∀ x ∈ a, Bd k x) (hb : ∀ x ∈ b, Bd l x) (hs : k + l ≤ 900000) (hl : a.length ≤ 1000) : runD cf xDot [tsI a, tsI b] S = .ok (.int (Qr.dot a b)) S := by
  refine run_eq rfl ?_
  show (exs cf Fu xDot.body [some (tsI a), some (tsI b), none, none] S).wp _
  unfold xDot
  have l1 : (((a.zip b).map pr).length ≤ lim) = True := len_map (by rw [List.length_zip]; omega)
  rw [q_ret]
  (try simp only [List.cons_append, List.nil_append, w_var, t_var, w_int, w_str, w_bl, w_non, w_gl, w_bin, w_neg, t_cmp, w_cmp, t_chain, w_chain, t_isC, w_isC, w_isi, t_isi, t_bop1, t_bop, w_bop1, w_bop, t_nt, w_nt, w_ite, t_ite, w_nil, w_cons, a_tup, w_fz, w_mu, a_disp, a_comp, w_ofSeq, w_call, w_prim, w_ix, w_sl, w_rev, w_pop, w_popAt, w_app, e_nop, e_int, e_var, e_bin, i_seq, a_rng, rngA_int, a_rng2, rngB_int, a_zip, zipA_some, a_enum, enA_some, src_tsI, src_lsI, t_call, t_prim, tru_bl, opt_some, t_nop, List.getElem?_cons_zero, List.getElem?_cons_succ, setTg, setTgs, List.set_cons_zero, List.set_cons_succ, wp_ok, wipeE, len0, len1, len2, len3, len4, len5, len6, len7, len8, len9, len10, if_true, if_false, Bool.false_eq_true, eq_int, ne_int, gt_int, lt_int', le_int', ge_int', add_int, sub_int, abs_int, int_int, Option.map_some, src_lst, src_tup, ix_t0, ix_t1, ix_t2, ix_t3, ix_l0, ix_l1, ix_l2, is_non, and_true, true_and, zipT_pr, l1])
  rw [comp_all (fun p : Int × Int => Tv.int (p.1 * p.2)) rfl (fun p hp => by
    have m1 : ∀ S, binV .mul S (.int p.1) (.int p.2) = some (.int (p.1 * p.2)) := fun S => mul_bd (ha _ (List.of_mem_zip hp).1) (hb _ (List.of_mem_zip hp).2) hs
    (try simp only [exs_nil, q_asg, kA_eq, kR_eq, q_drop, kD_eq, q_ret, q_if, kI_t, kI_f, q_set, kS_eq, q_pass, q_brk, q_cont, q_for, kF_eq, List.cons_append, List.nil_append, w_var, t_var, w_int, w_str, w_bl, w_non, w_gl, w_bin, w_neg, t_cmp, w_cmp, t_chain, w_chain, t_isC, w_isC, w_isi, t_isi, t_bop1, t_bop, w_bop1, w_bop, t_nt, w_nt, w_ite, t_ite, w_nil, w_cons, a_tup, w_fz, w_mu, a_disp, a_comp, w_ofSeq, w_call, w_prim, w_ix, w_sl, w_rev, w_pop, w_popAt, w_app, e_nop, e_int, e_var, e_bin, i_seq, a_rng, rngA_int, a_rng2, rngB_int, a_zip, zipA_some, a_enum, enA_some, src_tsI, src_lsI, t_call, t_prim, tru_bl, opt_some, t_nop, List.getElem?_cons_zero, List.getElem?_cons_succ, setTg, setTgs, List.set_cons_zero, List.set_cons_succ, wp_ok, wipeE, len0, len1, len2, len3, len4, len5, len6, len7, len8, len9, len10, if_true, if_false, Bool.false_eq_true, eq_int, ne_int, gt_int, lt_int', le_int', ge_int', add_int, sub_int, abs_int, int_int, Option.map_some, src_lst, src_tup, ix_t0, ix_t1, ix_t2, ix_t3, ix_l0, ix_l1, ix_l2, is_non, and_true, true_and, pr, m1]))]
  have e : ((a.zip b).map fun p : Int × Int => Tv.int (p.1 * p.2)) = ((a.zip b).map fun p : Int × Int => p.1 * p.2).map Tv.int := by rw [List.map_map]; rfl
  rw [e]
  (try simp only [List.cons_append, List.nil_append, w_var, t_var, w_int, w_str, w_bl, w_non, w_gl, w_bin, w_neg, t_cmp, w_cmp, t_chain, w_chain, t_isC, w_isC, w_isi, t_isi, t_bop1, t_bop, w_bop1, w_bop, t_nt, w_nt, w_ite, t_ite, w_nil, w_cons, a_tup, w_fz, w_mu, a_disp, a_comp, w_ofSeq, w_call, w_prim, w_ix, w_sl, w_rev, w_pop, w_popAt, w_app, e_nop, e_int, e_var, e_bin, i_seq, a_rng, rngA_int, a_rng2, rngB_int, a_zip, zipA_some, a_enum, enA_some, src_tsI, src_lsI, t_call, t_prim, tru_bl, opt_some, t_nop, List.getElem?_cons_zero, List.getElem?_cons_succ, setTg, setTgs, List.set_cons_zero, List.set_cons_succ, wp_ok, wipeE, len0, len1, len2, len3, len4, len5, len6, len7, len8, len9, len10, if_true, if_false, Bool.false_eq_true, eq_int, ne_int, gt_int, lt_int', le_int', ge_int', add_int, sub_int, abs_int, int_int, Option.map_some, src_lst, src_tup, ix_t0, ix_t1, ix_t2, ix_t3, ix_l0, ix_l1, ix_l2, is_non, and_true, true_and, sum_ints, sum_dot])
theorem cost_bd {cf c : Nat → List Tv → M Tv} (h : cf 25 = runD c xDot) {S : Sto} {a b : List Int} {k l : Nat} (ha : ∀ x ∈ a, Bd k x) (hb : ∀ x ∈ b, Bd l x) (hs : k + l ≤ 900000) (hl : a.length ≤ 1000) : runD cf xCost [tsI a, tsI b] S = .ok (.int (Qr.dot a b)) S := by
  refine run_eq rfl ?_
  show (exs cf Fu xCost.body [some (tsI a), some (tsI b)] S).wp _
  unfold xCost
  have e := dot_bd (cf := c) (S := S) ha hb hs hl
  rw [← h] at e
  (try simp only [exs_nil, q_asg, kA_eq, kR_eq, q_drop, kD_eq, q_ret, q_if, kI_t, kI_f, q_set, kS_eq, q_pass, q_brk, q_cont, q_for, kF_eq, List.cons_append, List.nil_append, w_var, t_var, w_int, w_str, w_bl, w_non, w_gl, w_bin, w_neg, t_cmp, w_cmp, t_chain, w_chain, t_isC, w_isC, w_isi, t_isi, t_bop1, t_bop, w_bop1, w_bop, t_nt, w_nt, w_ite, t_ite, w_nil, w_cons, a_tup, w_fz, w_mu, a_disp, a_comp, w_ofSeq, w_call, w_prim, w_ix, w_sl, w_rev, w_pop, w_popAt, w_app, e_nop, e_int, e_var, e_bin, i_seq, a_rng, rngA_int, a_rng2, rngB_int, a_zip, zipA_some, a_enum, enA_some, src_tsI, src_lsI, t_call, t_prim, tru_bl, opt_some, t_nop, List.getElem?_cons_zero, List.getElem?_cons_succ, setTg, setTgs, List.set_cons_zero, List.set_cons_succ, wp_ok, wipeE, len0, len1, len2, len3, len4, len5, len6, len7, len8, len9, len10, if_true, if_false, Bool.false_eq_true, eq_int, ne_int, gt_int, lt_int', le_int', ge_int', add_int, sub_int, abs_int, int_int, Option.map_some, src_lst, src_tup, ix_t0, ix_t1, ix_t2, ix_t3, ix_l0, ix_l1, ix_l2, is_non, and_true, true_and, e])
/-! ### sights -/
abbrev Sg := List (List Int) × Nat
structure WsOk (n : Nat) (ws : List Int) : Prop where
  len : ws.length = n
  bd : ∀ x ∈ ws, 0 ≤ x ∧ x ≤ 20
def own (s : Sg) : List Int := s.1.getD s.2 []
theorem ws_bd {n : Nat} {ws : List Int} (h : WsOk n ws) : ∀ x ∈ ws, Bd 5 x := fun x hx => Bd.of (m := 20) (by have := h.bd x hx; omega) (by decide)
/-! ### the range -/
end Mp
namespace Mp
/-! ### two lists of one's own -/
section
end
theorem ix_pr0 {S : Sto} {p : Int × Int} : ixV S (pr p) (.int 0) = some (.int p.1) := ix_t0
theorem ix_pr1 {S : Sto} {p : Int × Int} : ixV S (pr p) (.int 1) = some (.int p.2) := ix_t1
end Mp
namespace Mp
/-! ### drawn markets and sights -/
theorem drawn_P {cf : Nat → List Tv → M Tv} (P : Int → Prop) {env : Env} {S : Sto} {b n : Nat} (d : Dk b S) (hn : n ≤ 1000) (hb : b + n ≤ 900000) {elt : Env → M Tv} {i : Nat}
    (he : ∀ (t : Tv) (S : Sto) (b : Nat), b + 1 ≤ 900000 → Dk b S → (elt (env.set i (some t)) S).wp fun y S' => (∃ z : Int, y = .int z ∧ P z) ∧ Dk (b + 1) S' ∧ Grow S S') {QL : List Tv → Sto → Prop}
    (q : ∀ (ns : List Int) (S' : Sto), ns.length = n → (∀ x ∈ ns, P x) → Dk (b + n) S' → Grow S S' → QL (ns.map Tv.int) S') : (compL [] (.v i) env (ev cf .nop).t elt (rngT 0 n) S).wp QL := by
  refine comp_drawn (b := b) (k := 1) (fun _ y => ∃ z : Int, y = .int z ∧ P z) (by rw [rngT_len']; omega) d ?_ ?_
  · intro t ht b' S' hb' d' g'
    simp only [setTg]
    exact he t S' b' hb' d'
  · intro ys S' hl hV d' g'
    obtain ⟨ns, rfl, h1, h2⟩ := comp_ints (n := n) hl rngT_len' hV
    rw [rngT_len', Nat.one_mul] at d'
    exact q ns S' h1 h2 d' g'
/-! ### the least of some numbers -/
/-! ### the law -/
end Mp
namespace Mp
/-! ### penalties: the tables' entries, joined -/
end Mp
namespace Mp
def xLawIsInt : Df := ⟨3, 3,
  [
    .ret (.bop true [(.isi (.var 0) .int), (.nt (.isi (.var 0) .bool)), (.chain .le .le (.var 1) (.var 0) (.var 2))])]⟩
/-! ### a penalty explains all sights, just if it keeps to all pairs -/
end Mp
namespace Mp
/-! ### objects: the rules -/
section
variable {cf : Nat → List Tv → M Tv} {env : Env} {S : Sto} {Q : Tv → Sto → Prop} {a : Ex} {es ks : List Ex} {m : Nat} {r : List Sx} {D : Po}
theorem w_att {c i : Nat} : ((ev cf (.att c i a)).v env S).wp Q = ((ev cf a).v env S).wp fun x S => (opt (attV c i x) S).wp Q := by
  show (bnd _ _ S).wp Q = _
  simp only [wp_bnd]
theorem w_prop {c f : Nat} : ((ev cf (.prop c f a)).v env S).wp Q = ((ev cf a).v env S).wp fun x S => (propM c (cf f) x S).wp Q := by
  show (bnd _ _ S).wp Q = _
  simp only [wp_bnd]
theorem w_mk {c n f : Nat} : ((ev cf (.mk c n f es ks)).v env S).wp Q = (evs cf es env S).wp fun xs S => (evs cf ks env S).wp fun ys S => (mkM c n (cf f) (xs ++ ys) S).wp Q := by
  show (bnd _ _ S).wp Q = _
  simp only [wp_bnd]
theorem q_setAtt {c i : Nat} {e : Ex} : (exs cf m (.setAtt c i a e :: r) env S).wp D = ((ev cf e).v env S).wp fun t S => ((ev cf a).v env S).wp fun x S => kS cf m r env D (setAttM c i x t S) := by
  rw [exs_cons]
  simp only [ex, sr_of]
  congr 1; funext t S
  congr 1; funext x S
  cases setAttM c i x t S <;> simp only [sw_nx, sw_bad, kS]
end
/-! ### settings -/
structure Four where
  n : Nat
  rows : List (List Int)
  sh : List Int
  p : Int × Int
def Four.t (f : Four) : Tv := .tup [.int f.n, .tup (f.rows.map tsI), tsI f.sh, pr f.p]
def Four.s (f : Four) : Tv := .ins 0 [f.t]
def xIsTuple : Df := ⟨3, 3,
  [
    .ret (.bop true [(.isi (.var 0) .tuple), (.chain .le .le (.var 1) (.prim .len [(.var 0)]) (.var 2))])]⟩
def xAreIntegers : Df := ⟨4, 3,
  [
    .ret (.bop true [(.call 41 [(.var 0), (.var 1), (.var 1)]), (.prim .all [(.fz (.comp [3] (.call 34 [(.var 3), (.int 0), (.var 2)]) (.v 3) (.seq (.var 0)) .nop))])])]⟩
/-! ### what is a setting -/
end Mp
namespace Mp
/-! ### a setting made, its parts -/
/-! ### a row at the open things -/
theorem tup_ints {S : Sto} {ns : List Int} : primV .tuple S [.lst (ns.map Tv.int)] = some (tsI ns) := rfl
/-! ### the spread as a number pair -/
def sT : Option (Int × Int) → Tv
  | none => .non
  | some p => pr p
def lT : Option (Int × Int) → Tv
  | none => .tup []
  | some p => pr p
open Classical in
noncomputable def sprd (ws rs : List Int) : Option (Int × Int) := if h : ∃ o, SpreadV ws rs (sT o) then choose h else none
end Mp
namespace Mp
/-! ### spreads of small weights -/
def Tiny (ws rs : List Int) : Prop := ∀ p ∈ ws.zip rs, (0 ≤ p.1 ∧ p.1 ≤ 60) ∧ 0 ≤ p.2 ∧ p.2 ≤ 60
def t0 : Nat → List Tv → M Tv := fun _ _ => bad
def t1 : Nat → List Tv → M Tv := fun i => if i = 1 then runD t0 xDivisor else runD t0 xLawDivisor
def t2 : Nat → List Tv → M Tv := fun i => if i = 4 then runD t0 xIsZero else if i = 3 then runD t0 xIsLess else if i = 2 then runD t1 (xFraction 1) else runD t1 (xLowest 10)
/-! ### the first reduced row -/
/-! ### forms -/
structure Form where
  sh : List Int
  p : Int × Int
  first : Option (List Int)
  rows : List (List Int)
def oT : Option (List Int) → Tv
  | none => .non
  | some r => tsI r
def Form.t (o : Form) : Tv := .tup [tsI o.sh, pr o.p, oT o.first, .tup (o.rows.map tsI)]
end Mp
namespace Mp
/-! ### the forms, walked -/
end Mp
namespace Mp
theorem most_go : ∀ (r : List Int) (x : Int), (r.foldl (fun a y => if decide (a < y) = true then y else a) x = x ∨ r.foldl (fun a y => if decide (a < y) = true then y else a) x ∈ r) ∧ x ≤ r.foldl (fun a y => if decide (a < y) = true then y else a) x ∧ ∀ y ∈ r, y ≤ r.foldl (fun a y => if decide (a < y) = true then y else a) x
  | [], x => ⟨.inl rfl, Int.le_refl _, fun _ h => (List.not_mem_nil h).elim⟩
  | y :: r, x => by
    simp only [List.foldl_cons]
    by_cases c : x < y
    · rw [if_pos (decide_eq_true c)]
      obtain ⟨h1, h2, h3⟩ := most_go r y
      refine ⟨.inr ?_, by omega, fun z hz => ?_⟩
      · rcases h1 with e | e
        · rw [e]; exact List.mem_cons_self
        · exact List.mem_cons_of_mem _ e
      · rcases List.mem_cons.mp hz with rfl | e
        · exact h2
        · exact h3 z e
    · rw [if_neg (by simpa using c)]
      obtain ⟨h1, h2, h3⟩ := most_go r x
      refine ⟨?_, h2, fun z hz => ?_⟩
      · rcases h1 with e | e
        · exact .inl e
        · exact .inr (List.mem_cons_of_mem _ e)
      · rcases List.mem_cons.mp hz with rfl | e
        · omega
        · exact h3 z e
theorem most_spec {ns : List Int} (h : ns ≠ []) : mostOf ns ∈ ns ∧ ∀ x ∈ ns, x ≤ mostOf ns := by
  cases ns with
  | nil => exact absurd rfl h
  | cons n r =>
    obtain ⟨h1, h2, h3⟩ := most_go r n
    refine ⟨?_, fun x hx => ?_⟩
    · rcases h1 with e | e
      · show r.foldl _ n ∈ _
        rw [e]; exact List.mem_cons_self
      · exact List.mem_cons_of_mem _ e
    · rcases List.mem_cons.mp hx with rfl | e
      · exact h2
      · exact h3 x e
end Mp
namespace Mp
/-! ### settings drawn -/
end Mp
namespace Mp
end Mp
namespace Mp
end Mp
namespace Mp
/-! ### what repr shows of a form -/
end Mp
namespace Mp
end Mp
namespace Qr
/-! ### what is chosen: plain -/
def sub : List Int → List Int → List Int
  | x :: u, y :: v => (x - y) :: sub u v
  | _, _ => []
def way (M : List (List Int)) (i : Nat) : List Int := M.getD i []
/-- a lexicographic comparison -/
def lel (M : List (List Int)) (rs : List (List Int)) (i j : Nat) : Prop := lex (sub (way M i) (way M j)) rs ≤ 0
instance {M rs i j} : Decidable (lel M rs i j) := inferInstanceAs (Decidable (_ ≤ _))
/-- the ways at these places are all of one length -/
def Same (n : Nat) (M : List (List Int)) (A : List Nat) : Prop := ∀ i ∈ A, (way M i).length = n
theorem Same.sub {n : Nat} {M : List (List Int)} {A B : List Nat} (h : Same n M A) (s : ∀ i ∈ B, i ∈ A) : Same n M B := fun i hi => h i (s i hi)
end Qr
namespace Qr
/-! ### shares and the first row: plain -/
end Qr
namespace Mp
/-! ### what each def promises, by its number -/
abbrev FM := List Tv → M Tv
def S1 (m : FM) : Prop := ∃ c, m = runD c xDivisor
def S2 (m : FM) : Prop := ∃ c, m = runD c (xFraction 1) ∧ S1 (c 1)
def S3 (m : FM) : Prop := ∃ c, m = runD c xIsLess
theorem S3.at {m : FM} (h : S3 m) (S : Sto) (a b c d : Int) (ha : a.natAbs.log2 < 400000) (hb : b.natAbs.log2 < 400000) (hc : c.natAbs.log2 < 400000) (hd : d.natAbs.log2 < 400000) : m [pr (a, b), pr (c, d)] S = .ok (.bl (decide (a * d < c * b))) S := by
  obtain ⟨c', rfl⟩ := h
  exact isLess_ok ha hb hc hd
def S4 (m : FM) : Prop := ∃ c, m = runD c xIsZero
theorem S4.at {m : FM} (h : S4 m) (S : Sto) (ns : List Int) (hl : ns.length ≤ 1000) : m [tsI ns] S = .ok (.bl (Qr.isZ ns)) S := by
  obtain ⟨c', rfl⟩ := h
  exact isZero_isZ hl
abbrev S5 (m : FM) : Prop := ∀ (S : Sto) (ws rs : List Int), ws.length = rs.length → ws.length ≤ 1000 → Tiny ws rs → m [tsI ws, tsI rs] S = .ok (sT (sprd ws rs)) S
def S6 (m : FM) : Prop := ∃ c, m = runD c xDeck
theorem ok6 {cf : Nat → FM} : S6 (runD cf xDeck) := ⟨_, rfl⟩
def S7 (m : FM) : Prop := ∃ c, m = runD c xDraw
theorem ok7 {cf : Nat → FM} : S7 (runD cf xDraw) := ⟨_, rfl⟩
def S8 (m : FM) : Prop := ∃ c, m = runD c (xPick 7) ∧ S7 (c 7)
theorem ok8 {cf : Nat → FM} (d7 : S7 (cf 7)) : S8 (runD cf (xPick 7)) := ⟨_, rfl, d7⟩
theorem S7.wp {cf : Nat → FM} (h : S7 (cf 7)) {S : Sto} {b : Nat} {many : Int} (d : Dk b S) (hb : b < 1000000) (hm : 0 < many) (hm2 : many ≤ 100000000000000000000) {Q : Tv → Sto → Prop}
    (q : ∀ (v : Int) S', 0 ≤ v → v < many → Dk (b + 1) S' → Grow S S' → Q (.int v) S') : (cf 7 [.cell 1, .int many] S).wp Q := by
  obtain ⟨c, e⟩ := h
  exact draw_wp e d hb hm hm2 q
theorem S8.wp {cf : Nat → FM} (h : S8 (cf 8)) {S : Sto} {b : Nat} {ts : List Tv} (d : Dk b S) (hb : b < 1000000) (h0 : ts ≠ []) (hl : ts.length ≤ 1000) {Q : Tv → Sto → Prop}
    (q : ∀ t S', t ∈ ts → Dk (b + 1) S' → Grow S S' → Q t S') : (cf 8 [.cell 1, .lst ts] S).wp Q := by
  obtain ⟨c, e, c7, e7⟩ := h
  exact pick_wp e e7 d hb h0 hl q
def S10 (m : FM) : Prop := ∃ c, m = runD c xLawDivisor
def S11 (m : FM) : Prop := ∃ c, m = runD c (xLowest 10) ∧ S10 (c 10)
def S14 (m : FM) : Prop := ∃ c, m = runD c xPlus
def S15 (m : FM) : Prop := ∃ c, m = runD c (xLowest 1) ∧ S1 (c 1)
theorem S15.bd {m : FM} (h : S15 m) (S : Sto) (ns : List Int) (k : Nat) (hb : ∀ n ∈ ns, Bd k n) (hk : k ≤ 8000) (hl : ns.length ≤ 1000) : m [tsI ns] S = .ok (tsI (Qr.low ns)) S := by
  obtain ⟨c, rfl, c1, h1⟩ := h
  exact lowest_bd (k := k) (.inl rfl) (fun S => by rw [h1]; exact divisor_bd hb (by omega)) hb (by omega) hl
end Mp
namespace Mp
/-! ### more rules -/
section
variable {cf : Nat → List Tv → M Tv} {env : Env} {S : Sto} {Q : Tv → Sto → Prop} {QB : Bool → Sto → Prop} {a b c e : Ex}
theorem w_minD : ((ev cf (.minD a b)).v env S).wp Q = ((ev cf a).v env S).wp fun x S => ((ev cf b).v env S).wp fun y S => (opt (minDV S x y) S).wp Q := by
  show (bnd _ _ S).wp Q = _
  simp only [wp_bnd]
theorem w_cut {lo hi : Ex} {QL : List Tv → Sto → Prop} : (evL cf (.cut a lo hi) env S).wp QL = ((ev cf a).v env S).wp fun x S => (evEnd lo ((ev cf lo).v env) S).wp fun l S => (evEnd hi ((ev cf hi).v env) S).wp fun h S => (opt (cutLV S x l h) S).wp QL := by
  show (bnd _ _ S).wp QL = _
  simp only [wp_bnd]
theorem ft0 {f : Four} : ixV S f.t (.int 0) = some (.int f.n) := rfl
theorem ft1 {f : Four} : ixV S f.t (.int 1) = some (.tup (f.rows.map tsI)) := rfl
theorem ft2 {f : Four} : ixV S f.t (.int 2) = some (tsI f.sh) := rfl
theorem ft3 {f : Four} : ixV S f.t (.int 3) = some (pr f.p) := rfl
theorem is_false0 : (False = True) = False := by simp
end
theorem ix_nat {S : Sto} {ts : List Tv} {i : Nat} {t : Tv} (h : ts[i]? = some t) : ixV S (.tup ts) (.int (i : Int)) = some t := L2.atI_nat h
/-- a market: so many things, counts of so many bits -/
structure MkOk0 (n K : Nat) (M : List (List Int)) : Prop where
  len : M.length ≤ 1000
  w : ∀ w ∈ M, w.length = n ∧ ∀ x ∈ w, 0 ≤ x ∧ Bd K x
structure MkOk (n K : Nat) (M : List (List Int)) : Prop where
  ne : M ≠ []
  len : M.length ≤ 1000
  w : ∀ w ∈ M, w.length = n ∧ ∀ x ∈ w, 0 ≤ x ∧ Bd K x
theorem MkOk.z {n K : Nat} {M : List (List Int)} (h : MkOk n K M) : MkOk0 n K M := ⟨h.len, h.w⟩
instance {n K : Nat} {M : List (List Int)} : Coe (MkOk n K M) (MkOk0 n K M) := ⟨MkOk.z⟩
end Mp
namespace Mp
/-! ### what remains: walked -/
def S25 (m : FM) : Prop := ∃ c, m = runD c xDot
def S26 (m : FM) : Prop := ∃ c, m = runD c xCost ∧ S25 (c 25)
def S30 (m : FM) : Prop := ∃ c, m = runD c xLawCost
theorem S25.at {m : FM} (h : S25 m) (S : Sto) {a b : List Int} {k l : Nat} (ha : ∀ x ∈ a, Bd k x) (hb : ∀ x ∈ b, Bd l x) (hs : k + l ≤ 900000) (hl : a.length ≤ 1000) : m [tsI a, tsI b] S = .ok (.int (Qr.dot a b)) S := by
  obtain ⟨c, rfl⟩ := h
  exact dot_bd ha hb hs hl
theorem S26.at {m : FM} (h : S26 m) (S : Sto) {a b : List Int} {k l : Nat} (ha : ∀ x ∈ a, Bd k x) (hb : ∀ x ∈ b, Bd l x) (hs : k + l ≤ 900000) (hl : a.length ≤ 1000) : m [tsI a, tsI b] S = .ok (.int (Qr.dot a b)) S := by
  obtain ⟨c, rfl, c2, h2⟩ := h
  exact cost_bd h2 ha hb hs hl
theorem S30.at {m : FM} (h : S30 m) (S : Sto) {a b : List Int} {k l : Nat} (ha : ∀ x ∈ a, Bd k x) (hb : ∀ x ∈ b, Bd l x) (hs : k + l ≤ 900000) (hl : a.length ≤ 1000) : m [tsI a, tsI b] S = .ok (.int (Qr.dot a b)) S := by
  obtain ⟨c, rfl⟩ := h
  exact dot_bd (cf := c) ha hb hs hl
theorem bd20 {x : Int} (h : 0 ≤ x ∧ x ≤ 20) : Bd 5 x := Bd.of (m := 20) (by omega) (by decide)
/-! ### allowed ways -/
theorem all_bls {S : Sto} {α : Type} {xs : List α} {q : α → Bool} : primV .all S [.lst (xs.map fun x => Tv.bl (q x))] = some (.bl (xs.all q)) := by
  have e : ∀ ys : List α, blsOf (ys.map fun x => Tv.bl (q x)) = some (ys.map q) := fun ys => by
    induction ys with
    | nil => rfl
    | cons y ys ih => simp only [List.map_cons, blsOf, ih, Option.map_some]
  show ((lstOf S (.lst (xs.map fun x => Tv.bl (q x)))).bind fun ts => (blsOf ts).map fun bs => Tv.bl (bs.all id)) = _
  simp only [lstOf, Option.bind_some, e, Option.map_some]
  rw [List.all_map]
  rfl
/-! ### the stages -/
end Mp
namespace Mp
/-! ### the law's own stages -/
theorem eq_lst0 {S : Sto} {ns : List Int} : cmpV .eq S (.lst (ns.map Tv.int)) (.lst []) = some ns.isEmpty := by
  have h := ne_lst (S := S) (ns := ns)
  have e : cmpV .ne S (lsI ns) (.lst []) = (cmpV .eq S (lsI ns) (.lst [])).map (!·) := by simp only [cmpV]
  rw [e] at h
  show cmpV .eq S (lsI ns) (.lst []) = _
  cases q : cmpV .eq S (lsI ns) (.lst []) with
  | none => rw [q] at h; cases h
  | some b =>
    rw [q] at h
    have h := Option.some.inj h
    cases b <;> cases hn : ns.isEmpty <;> rw [hn] at h <;> first | rfl | cases h
theorem eq_ones {S : Sto} {α : Type} {xs : List α} : cmpV .eq S (.lst (xs.map fun _ => Tv.int 1)) (.lst []) = some xs.isEmpty := by
  have e : (xs.map fun _ => Tv.int 1) = (xs.map fun _ => (1 : Int)).map Tv.int := by rw [List.map_map]; rfl
  rw [e, eq_lst0]
  cases xs <;> rfl
end Mp
namespace Mp
theorem S6.at {cf : Nat → FM} {ns : List Int} (h : S6 (cf 6)) (hl : ns.length ≤ 63) : (cf 6 [.scr (ns.map Tv.int)] []).wp fun t S => t = .cell 1 ∧ Dk 0 S := by
  obtain ⟨c, e⟩ := h
  exact deck_dk e hl
end Mp
namespace Mp
/-! ### k05 -/
def nI (A : List Nat) : List Int := A.map fun (i : Nat) => (i : Int)
end Mp
namespace Qr
/-! ### a way left out: plain -/
def out (M : List (List Int)) (a : Nat) : List (List Int) := M.take a ++ M.drop (a + 1)
end Qr
namespace Mp
/-! ### lists compared, cut -/
theorem ne_of_eq {S : Sto} {a b : Tv} {k : Bool} (h : cmpV .eq S a b = some k) : cmpV .ne S a b = some (!k) := by
  have e : cmpV .ne S a b = (cmpV .eq S a b).map (!·) := by simp only [cmpV]
  rw [e, h]
  rfl
theorem cut_to {α : Type} {xs : List α} {i : Nat} (h : i ≤ xs.length) : cutL xs none (some (i : Int)) = xs.take i := by
  unfold cutL
  have h1 : HT.sIx xs.length 0 none = 0 := rfl
  have h2 : HT.sIx xs.length xs.length (some (i : Int)) = i := by
    rw [HT.sIx_nat]
    omega
  rw [h1, h2]
  simp
theorem cut_from {α : Type} {xs : List α} {i : Nat} (h : i ≤ xs.length) : cutL xs (some (i : Int)) none = xs.drop i := by
  unfold cutL
  have h1 : HT.sIx xs.length 0 (some (i : Int)) = i := by
    rw [HT.sIx_nat]
    omega
  have h2 : HT.sIx xs.length xs.length none = xs.length := rfl
  rw [h1, h2]
  exact List.take_of_length_le (by rw [List.length_drop]; omega)
theorem sl_to {S : Sto} {ts : List Tv} {i : Nat} (h : i ≤ ts.length) : slV S (.tup ts) none (some (i : Int)) = some (.tup (ts.take i)) := by
  show some (Tv.tup (cutL ts none (some (i : Int)))) = _
  rw [cut_to h]
theorem sl_from {S : Sto} {ts : List Tv} {i : Nat} (h : i ≤ ts.length) : slV S (.tup ts) (some (i : Int)) none = some (.tup (ts.drop i)) := by
  show some (Tv.tup (cutL ts (some (i : Int)) none)) = _
  rw [cut_from h]
theorem add_tups {S : Sto} {a b : List Tv} (h : a.length + b.length ≤ 100000) : binV .add S (.tup a) (.tup b) = some (.tup (a ++ b)) := by
  show (if a.length + b.length ≤ lim then some (Tv.tup (a ++ b)) else none) = _
  rw [if_pos (by unfold lim; omega)]
end Mp
namespace Mp
/-! ### what a spread is -/
/-! ### the rows at the open things -/
/-! ### what is chosen is told by the form -/
end Mp
namespace Mp
/-! ### two settings compared -/
/-- the things that are not barred -/
def opn (f : Four) : List Nat := (List.range f.n).filter fun (i : Nat) => !decide ((i : Int) ∈ f.sh)
/-! ### items in a drawn order -/
/-- a list, a tuple, as it is, or a list in the store -/
def Src (S : Sto) (t : Tv) (ts : List Tv) : Prop := t = .lst ts ∨ t = .tup ts ∨ ∃ k, t = .cell k ∧ S[k]? = some (.lst ts) ∧ 2 ≤ k
theorem Src.seq {S : Sto} {t : Tv} {ts : List Tv} (h : Src S t ts) : seqOf S t = some ts := by
  rcases h with rfl | rfl | ⟨k, rfl, h, _⟩
  · rfl
  · rfl
  · simp only [seqOf, h]
theorem Src.len {S : Sto} {t : Tv} {ts : List Tv} (h : Src S t ts) : primV .len S [t] = some (.int (ts.length : Int)) := by
  have e := h.seq
  rcases h with rfl | rfl | ⟨k, rfl, h, _⟩
  · rfl
  · rfl
  · show (seqOf S (.cell k)).map _ = _
    rw [e]
    rfl
theorem Src.grow {S S' : Sto} {t : Tv} {ts : List Tv} (h : Src S t ts) (g : Grow S S') : Src S' t ts := by
  rcases h with rfl | rfl | ⟨k, rfl, h, h2⟩
  · exact .inl rfl
  · exact .inr (.inl rfl)
  · exact .inr (.inr ⟨k, rfl, g.own h h2, h2⟩)
end Mp
namespace Mp
/-! ### near settings -/
end Mp
namespace Mp
/-! ### pairs; markets at the share's edge -/
/-- a way of small counts -/
def WayS (n : Nat) (w : List Int) : Prop := w.length = n ∧ ∀ x ∈ w, 0 ≤ x ∧ x ≤ 4000
theorem ways_mk {n : Nat} {M : List (List Int)} (hne : M ≠ []) (hl : M.length ≤ 1000) (h : ∀ w ∈ M, WayS n w) : MkOk n 12 M := ⟨hne, hl, fun w hw => ⟨(h w hw).1, fun x hx => ⟨((h w hw).2 x hx).1, Bd.of (m := 4000) (by have := (h w hw).2 x hx; omega) (by decide)⟩⟩⟩
def MkV (n : Nat) (t : Tv) : Prop := ∃ M : List (List Int), t = .tup (M.map tsI) ∧ M ≠ [] ∧ M.length ≤ 8 ∧ ∀ w ∈ M, WayS n w
/-- so much of one thing -/
def oneOf (n a : Nat) (x : Int) : List Int := (List.range n).map fun i => if i = a then x else 0
end Mp
namespace Mp
/-! ### errors that are raised, caught -/
end Mp
namespace Mp
/-! ### settings with defaults; open things; settled settings -/
section
end
end Mp
namespace Mp
/-! ### detours -/
end Mp
namespace Mp
/-! ### detours bound what is chosen -/
end Mp
namespace Qr
end Qr
namespace Mp
theorem oneOf_nn {n a : Nat} {x : Int} (h : 0 ≤ x) : ∀ y ∈ oneOf n a x, 0 ≤ y ∧ y ≤ x := fun y hy => by
  obtain ⟨i, _, rfl⟩ := List.mem_map.mp hy
  show 0 ≤ (if i = a then x else 0) ∧ (if i = a then x else 0) ≤ x
  split <;> omega
theorem oneOf_len {n a : Nat} {x : Int} : (oneOf n a x).length = n := by simp [oneOf]
/-- two ways of one thing each, as the program makes them -/
def pb (n : Nat) (own g : List Int) (a b : Nat) (L : Int × Int) : Option (List Int × List Int) :=
  if Qr.at' own a = 0 ∨ Qr.at' g b = 0 then none else
  if Qr.at' g a = 0 then some (oneOf n a (L.1 * Qr.at' own b / (L.2 * Qr.at' own a) + 1), oneOf n b 1) else
  if L.2 * Qr.at' g b * Qr.at' own a - L.1 * Qr.at' g a * Qr.at' own b ≤ 0 then none else
  some (oneOf n a ((L.2 * Qr.at' own a / (L.2 * Qr.at' g b * Qr.at' own a - L.1 * Qr.at' g a * Qr.at' own b) + 1) * Qr.at' g b - 1), oneOf n b ((L.2 * Qr.at' own a / (L.2 * Qr.at' g b * Qr.at' own a - L.1 * Qr.at' g a * Qr.at' own b) + 1) * Qr.at' g a))
end Mp
namespace Mp
/-! ### two ways, the first one chosen -/
end Mp
namespace Mp
/-! ### ways of one thing, detours beyond a limit -/
abbrev S77 (m : FM) : Prop := ∀ (S : Sto) (w : List Int) (k : Int) (b l : Nat), w.length ≤ 1000 → (∀ x ∈ w, Bd b x) → Bd l k → l + b ≤ 900000 → m [tsI w, .int k] S = .ok (tsI (w.map fun x => k * x)) S
theorem oneOf_mul {n a : Nat} {k x : Int} : (oneOf n a x).map (fun y => k * y) = oneOf n a (k * x) := by
  unfold oneOf
  rw [List.map_map]
  refine List.map_congr_left fun i _ => ?_
  show k * (if i = a then x else 0) = if i = a then k * x else 0
  split <;> simp
theorem S77.one {m : FM} (h : S77 m) (S : Sto) (n a : Nat) (k : Int) (l : Nat) (hn : n ≤ 1000) (hk : Bd l k) (hl : l ≤ 800000) : m [tsI (oneOf n a 1), .int k] S = .ok (tsI (oneOf n a k)) S := by
  rw [h S (oneOf n a 1) k 5 l (by rw [oneOf_len]; omega) (fun x hx => bd20 (by have := oneOf_nn (n := n) (a := a) (x := 1) (by decide) x hx; omega)) hk (by omega), oneOf_mul, Int.mul_one]
section
end
theorem ws_at {n : Nat} {w : List Int} (h : WsOk n w) (k : Nat) : 0 ≤ Qr.at' w k ∧ Qr.at' w k ≤ 20 := by
  unfold Qr.at'
  rw [List.getD_eq_getElem?_getD]
  cases e : w[k]? with
  | none => exact (by decide : (0 : Int) ≤ 0 ∧ (0 : Int) ≤ 20)
  | some x => exact h.bd x (List.mem_of_getElem? e)
end Mp
namespace Mp
/-! ### rays, excesses, changes: what they compute -/
def plusL (a b : List Int) (t : Int) : List Int := List.zipWith (fun x y => x + t * y) a b
theorem S14.at {m : FM} (h : S14 m) (S : Sto) {a b : List Int} {t : Int} {k l : Nat} (hk : Bd k t) (hb : ∀ y ∈ b, Bd l y) (hs : k + l ≤ 900000) (hl : a.length ≤ 1000) : m [tsI a, tsI b, .int t] S = .ok (tsI (plusL a b t)) S := by
  obtain ⟨c, rfl⟩ := h
  exact plus_bd hk hb hs hl
theorem plusL_len {a b : List Int} {t : Int} (h : a.length = b.length) : (plusL a b t).length = a.length := by
  unfold plusL
  rw [List.length_zipWith, h, Nat.min_self]
def zeros (n : Nat) : List Int := List.replicate n 0
def exc (m : List Int) (p : Int × Int) (q : List Int × List Int) : Int := p.2 * Qr.dot m q.1 - p.1 * Qr.dot m q.2
end Mp
namespace Mp
/-! ### k23 -/
end Mp
namespace Mp
/-! ### two generators; detour_beyond -/
section
end
end Mp
namespace Mp
/-! ### sums of pairs; whether one row is a multiple; a change that parts two rows -/
def sumP (p q : List Int × List Int) (a b : Int) : List Int × List Int := (plusL (p.1.map fun x => a * x) q.1 b, plusL (p.2.map fun x => a * x) q.2 b)
end Mp
namespace Mp
/-! ### a change at which two rows have unlike signs -/
theorem oneOf_bds {n a k : Nat} {x : Int} (hb : Bd k x) : ∀ y ∈ oneOf n a x, Bd k y := fun y hy => by
  obtain ⟨i, _, rfl⟩ := List.mem_map.mp hy
  show Bd k (if i = a then x else 0)
  split
  · exact hb
  · exact Nat.two_pow_pos k
end Mp
namespace Mp
/-! ### rays; a pair of ways beyond a share -/
def raysOne (n : Nat) (g : Option (List Int)) (A : List Nat) (a : Nat) : List (List Int × List Int) := match g with
  | none => [(oneOf n a 1, zeros n)]
  | some g => if Qr.at' g a = 0 then [(oneOf n a 1, zeros n)] else (A.filter fun b => decide (Qr.at' g b > 0)).map fun b => (oneOf n a (Qr.at' g b), oneOf n b (Qr.at' g a))
def rays (n : Nat) (g : Option (List Int)) (A : List Nat) : List (List Int × List Int) := (A.map fun t => (zeros n, oneOf n t 1)) ++ A.flatMap (raysOne n g A)
end Mp
namespace Mp
/-! ### strictly; beyond_one -/
def thOf (w : List Int) (A : List Nat) : Nat := (A.filter fun a => decide (Qr.at' w a > 0)).headD 0
def strP (n : Nat) (g : Option (List Int)) (A : List Nat) (fs : List (List Int × (Int × Int))) (p : List Int × List Int) : List Int × List Int := match g with
  | none => p
  | some w => sumP p (zeros n, oneOf n (thOf w A) 1) (mostOf (fs.map fun f => f.2.1 * Qr.at' f.1 (thOf w A)) + 1) 1
theorem zeros_bd {n k : Nat} : ∀ x ∈ zeros n, Bd k x := fun x hx => by
  have := List.eq_of_mem_replicate hx
  subst this
  exact Nat.two_pow_pos k
theorem zeros_len {n : Nat} : (zeros n).length = n := by simp [zeros]
theorem rays_ok {n : Nat} {g : Option (List Int)} {A : List Nat} (hg : ∀ w, g = some w → WsOk n w) : ∀ q ∈ rays n g A, (q.1.length = n ∧ q.2.length = n) ∧ (∀ x ∈ q.1, Bd 5 x) ∧ ∀ x ∈ q.2, Bd 5 x := fun q hq => by
  have one5 : ∀ i, ∀ x ∈ oneOf n i 1, Bd 5 x := fun i => oneOf_bds (Bd.of (m := 1) (by decide) (by decide))
  unfold rays at hq
  rcases List.mem_append.mp hq with h | h
  · obtain ⟨t, _, rfl⟩ := List.mem_map.mp h
    exact ⟨⟨zeros_len, oneOf_len⟩, zeros_bd, one5 t⟩
  · obtain ⟨a, _, h⟩ := List.mem_flatMap.mp h
    unfold raysOne at h
    cases g with
    | none =>
      rw [List.mem_singleton.mp h]
      exact ⟨⟨oneOf_len, zeros_len⟩, one5 a, zeros_bd⟩
    | some w =>
      have hw := hg w rfl
      simp only at h
      split at h
      · rw [List.mem_singleton.mp h]
        exact ⟨⟨oneOf_len, zeros_len⟩, one5 a, zeros_bd⟩
      · obtain ⟨b, _, rfl⟩ := List.mem_map.mp h
        exact ⟨⟨oneOf_len, oneOf_len⟩, oneOf_bds (bd20 (ws_at hw b)), oneOf_bds (bd20 (ws_at hw a))⟩
end Mp
namespace Mp
/-! ### regret: what it computes -/
end Mp
namespace Mp
/-! ### the measure's row; a ray above the share -/
/-! ### what regret tells -/
end Mp
namespace Mp
/-! ### regret: the walk -/
theorem mem_plusL {t x : Int} : ∀ {a b : List Int}, x ∈ plusL a b t → ∃ y ∈ a, ∃ z ∈ b, x = y + t * z
  | [], _, h => by simp [plusL] at h
  | _ :: _, [], h => by simp [plusL] at h
  | y :: a, z :: b, h => by
    have h : x ∈ (y + t * z) :: plusL a b t := h
    rcases List.mem_cons.mp h with rfl | h
    · exact ⟨y, List.mem_cons_self, z, List.mem_cons_self, rfl⟩
    · obtain ⟨p, hp, q, hq, e⟩ := mem_plusL h
      exact ⟨p, List.mem_cons_of_mem _ hp, q, List.mem_cons_of_mem _ hq, e⟩
theorem S25.lst {m : FM} (h : S25 m) (S : Sto) {a b : List Int} {k l : Nat} (ha : ∀ x ∈ a, Bd k x) (hb : ∀ x ∈ b, Bd l x) (hs : k + l ≤ 900000) (hl : a.length ≤ 1000) : m [tsI a, .lst (b.map Tv.int)] S = .ok (.int (Qr.dot a b)) S := by
  obtain ⟨c, rfl⟩ := h
  refine run_eq rfl ?_
  show (exs c Fu xDot.body [some (tsI a), some (.lst (b.map Tv.int)), none, none] S).wp _
  unfold xDot
  have l1 : (((a.zip b).map pr).length ≤ lim) = True := len_map (by rw [List.length_zip]; omega)
  have ez : zipT (a.map Tv.int) (b.map Tv.int) = (a.zip b).map pr := zipT_pr _ _
  rw [q_ret]
  (try simp only [List.cons_append, List.nil_append, w_var, t_var, w_int, w_str, w_bl, w_non, w_gl, w_bin, w_neg, t_cmp, w_cmp, t_chain, w_chain, t_isC, w_isC, w_isi, t_isi, t_bop1, t_bop, w_bop1, w_bop, t_nt, w_nt, w_ite, t_ite, w_nil, w_cons, a_tup, w_fz, w_mu, a_disp, a_comp, w_ofSeq, w_call, w_prim, w_ix, w_sl, w_rev, w_pop, w_popAt, w_app, w_att, w_prop, w_mk, e_nop, e_int, e_var, e_bin, i_seq, a_rng, rngA_int, a_rng2, rngB_int, a_zip, zipA_some, a_enum, enA_some, src_tsI, src_lsI, t_call, t_prim, tru_bl, opt_some, t_nop, List.getElem?_cons_zero, List.getElem?_cons_succ, setTg, setTgs, List.set_cons_zero, List.set_cons_succ, wp_ok, wipeE, len0, len1, len2, len3, len4, len5, len6, len7, len8, len9, len10, if_true, if_false, Bool.false_eq_true, eq_int, ne_int, gt_int, lt_int', le_int', ge_int', add_int, sub_int, abs_int, int_int, Option.map_some, src_lst, src_tup, ix_t0, ix_t1, ix_t2, ix_t3, ix_l0, ix_l1, ix_l2, is_non, and_true, true_and, w_minD, w_cut, ft0, ft1, ft2, ft3, ix_pr0, ix_pr1, tup_ints, is_false0, Bool.not_true, Bool.not_false, ez, l1])
  rw [comp_all (fun p : Int × Int => Tv.int (p.1 * p.2)) rfl (fun p hp => by
    have m1 : ∀ S, binV .mul S (.int p.1) (.int p.2) = some (.int (p.1 * p.2)) := fun S => mul_bd (ha _ (List.of_mem_zip hp).1) (hb _ (List.of_mem_zip hp).2) hs
    have e : pr p = .tup [.int p.1, .int p.2] := rfl
    rw [e]
    (try simp only [exs_nil, q_asg, kA_eq, kR_eq, q_drop, kD_eq, q_ret, q_if, kI_t, kI_f, q_set, kS_eq, q_pass, q_brk, q_cont, q_for, kF_eq, List.cons_append, List.nil_append, w_var, t_var, w_int, w_str, w_bl, w_non, w_gl, w_bin, w_neg, t_cmp, w_cmp, t_chain, w_chain, t_isC, w_isC, w_isi, t_isi, t_bop1, t_bop, w_bop1, w_bop, t_nt, w_nt, w_ite, t_ite, w_nil, w_cons, a_tup, w_fz, w_mu, a_disp, a_comp, w_ofSeq, w_call, w_prim, w_ix, w_sl, w_rev, w_pop, w_popAt, w_app, w_att, w_prop, w_mk, q_setAtt, e_nop, e_int, e_var, e_bin, i_seq, a_rng, rngA_int, a_rng2, rngB_int, a_zip, zipA_some, a_enum, enA_some, src_tsI, src_lsI, t_call, t_prim, tru_bl, opt_some, t_nop, List.getElem?_cons_zero, List.getElem?_cons_succ, setTg, setTgs, List.set_cons_zero, List.set_cons_succ, wp_ok, wipeE, len0, len1, len2, len3, len4, len5, len6, len7, len8, len9, len10, if_true, if_false, Bool.false_eq_true, eq_int, ne_int, gt_int, lt_int', le_int', ge_int', add_int, sub_int, abs_int, int_int, Option.map_some, src_lst, src_tup, ix_t0, ix_t1, ix_t2, ix_t3, ix_l0, ix_l1, ix_l2, is_non, and_true, true_and, w_minD, w_cut, ft0, ft1, ft2, ft3, ix_pr0, ix_pr1, tup_ints, is_false0, Bool.not_true, Bool.not_false, m1]))]
  have e : ((a.zip b).map fun p : Int × Int => Tv.int (p.1 * p.2)) = ((a.zip b).map fun p : Int × Int => p.1 * p.2).map Tv.int := by rw [List.map_map]; rfl
  rw [e]
  (try simp only [List.cons_append, List.nil_append, w_var, t_var, w_int, w_str, w_bl, w_non, w_gl, w_bin, w_neg, t_cmp, w_cmp, t_chain, w_chain, t_isC, w_isC, w_isi, t_isi, t_bop1, t_bop, w_bop1, w_bop, t_nt, w_nt, w_ite, t_ite, w_nil, w_cons, a_tup, w_fz, w_mu, a_disp, a_comp, w_ofSeq, w_call, w_prim, w_ix, w_sl, w_rev, w_pop, w_popAt, w_app, w_att, w_prop, w_mk, e_nop, e_int, e_var, e_bin, i_seq, a_rng, rngA_int, a_rng2, rngB_int, a_zip, zipA_some, a_enum, enA_some, src_tsI, src_lsI, t_call, t_prim, tru_bl, opt_some, t_nop, List.getElem?_cons_zero, List.getElem?_cons_succ, setTg, setTgs, List.set_cons_zero, List.set_cons_succ, wp_ok, wipeE, len0, len1, len2, len3, len4, len5, len6, len7, len8, len9, len10, if_true, if_false, Bool.false_eq_true, eq_int, ne_int, gt_int, lt_int', le_int', ge_int', add_int, sub_int, abs_int, int_int, Option.map_some, src_lst, src_tup, ix_t0, ix_t1, ix_t2, ix_t3, ix_l0, ix_l1, ix_l2, is_non, and_true, true_and, w_minD, w_cut, ft0, ft1, ft2, ft3, ix_pr0, ix_pr1, tup_ints, is_false0, Bool.not_true, Bool.not_false, sum_ints, sum_dot])
end Mp
namespace Mp
/-! ### weights that may be regretted -/
theorem S10.at {m : FM} (h : S10 m) (S : Sto) {n : Nat} {w : List Int} (hw : WsOk n w) : m [tsI w] S = .ok (.int (Qr.gcdL w)) S := by
  obtain ⟨c, rfl⟩ := h
  exact lawDivisor_bd rfl (ws_bd hw) (by decide)
end Mp
namespace Mp
/-! ### the greatest cost of what is chosen; when regret is due -/
end Mp
namespace Mp
/-! ### when nothing is to be regretted -/
theorem max_tsI {S : Sto} {ns : List Int} (h : ns ≠ []) : primV .max S [tsI ns] = some (.int (mostOf ns)) := by
  cases ns with
  | nil => exact absurd rfl h
  | cons n r =>
    show ((some ((n :: r).map Tv.int)).bind fun ts => match intsOf ts with
      | some (n :: r) => some (Tv.int (mostOf (n :: r)))
      | _ => none) = _
    simp only [Option.bind_some, intsOf_map]
end Mp
namespace Mp
/-! ### two ways, the second one chosen -/
end Mp
namespace Mp
/-! ### ways that differ by a change: their costs -/
end Mp
namespace Mp
/-! ### the base; one way alone -/
end Mp
namespace Mp
/-! ### the change of case b lies at open things -/
end Mp
namespace Mp
/-! ### case b: the first row tells -/
end Mp
namespace Mp
/-! ### case a: no rows -/
end Mp
namespace Mp
/-! ### case c: costs of the strict pair -/
end Mp
namespace Mp
/-! ### case c: own weights that are a multiple of the first row -/
end Mp
namespace Mp
end Mp
namespace Mp
theorem mem_times {k : Int} {a : List Int} {l b : Nat} (hk : 0 ≤ k ∧ Bd l k) (ha : ∀ x ∈ a, 0 ≤ x ∧ Bd b x) : ∀ x ∈ a.map (fun x => k * x), 0 ≤ x ∧ Bd (l + b) x := fun x hx => by
  obtain ⟨y, hy, rfl⟩ := List.mem_map.mp hx
  exact ⟨Int.mul_nonneg hk.1 (ha y hy).1, hk.2.mul (ha y hy).2⟩
end Mp
namespace Mp
end Mp
namespace Mp
theorem str_ok {f : Four} {m g : List Int} {p : Int × Int} {q : List Int × List Int} (hm : WsOk f.n m) (hg : WsOk f.n g) (hp : 0 ≤ p.1 ∧ p.1 ≤ 20) (hq : q ∈ rays f.n (some g) (opn f)) (q0 : (∀ x ∈ q.1, 0 ≤ x) ∧ ∀ x ∈ q.2, 0 ≤ x) :
    ((strP f.n (some g) (opn f) [(m, p)] q).1.length = f.n ∧ ∀ x ∈ (strP f.n (some g) (opn f) [(m, p)] q).1, 0 ≤ x ∧ Bd 60 x) := by
  obtain ⟨⟨l1, l2⟩, b1, b2⟩ := rays_ok (fun w e => by cases e; exact hg) q hq
  have e : (strP f.n (some g) (opn f) [(m, p)] q).1 = plusL (q.1.map fun x => (p.1 * Qr.at' m (thOf g (opn f)) + 1) * x) (zeros f.n) 1 := rfl
  rw [e]
  have mt := ws_at hm (thOf g (opn f))
  have x0 : 0 ≤ p.1 * Qr.at' m (thOf g (opn f)) := Int.mul_nonneg hp.1 mt.1
  have x1 : p.1 * Qr.at' m (thOf g (opn f)) ≤ 20 * 20 := Int.mul_le_mul hp.2 mt.2 mt.1 (by decide)
  refine ⟨by rw [plusL_len (by rw [List.length_map, zeros_len, l1]), List.length_map, l1], fun x hx => ?_⟩
  obtain ⟨y, hy, z, hz, rfl⟩ := mem_plusL hx
  have hz := List.eq_of_mem_replicate hz
  obtain ⟨y0, yb⟩ := mem_times (l := 10) (b := 5) ⟨by omega, Bd.of (m := 401) (by omega) (by decide)⟩ (fun x hx => ⟨q0.1 x hx, b1 x hx⟩) y hy
  rw [hz, Int.mul_zero, Int.add_zero]
  exact ⟨y0, yb.mono (by decide)⟩
end Mp
namespace Mp
end Mp
namespace Mp
end Mp
namespace Mp
/-! ### limits; what is a market; what is told -/
theorem a_cat {cf : Nat → FM} {env : Env} {S : Sto} {QL : List Tv → Sto → Prop} {a b : Ex} : (evL cf (.cat a b) env S).wp QL = ((ev cf a).v env S).wp fun x S => ((ev cf b).v env S).wp fun y S => (opt (catLV S x y) S).wp QL := by
  show (bnd _ _ S).wp QL = _
  simp only [wp_bnd]
def xLawIsWay : Df := ⟨3, 2,
  [
    .ifS (.bop false [(.nt (.isi (.var 1) .tuple)), (.cmp .ne (.prim .len [(.var 1)]) (.var 0))])
      [
        .ret (.bl false)]
      [],
    .ret (.cmp .eq (.fz (.comp [2] (.int 1) (.v 2) (.seq (.var 1)) (.bop false [(.nt (.isi (.var 2) .int)), (.isi (.var 2) .bool), (.cmp .lt (.var 2) (.int 0))]))) (.fz (.disp [])))]⟩
end Mp
namespace Mp
/-! ### k26 -/
end Mp
namespace Mp
/-! ### nothing to regret: the plain law -/
/-! ### a way, drawn -/
def xLawWay : Df := ⟨4, 2,
  [
    .asg (.v 2) (.call 8 [(.var 0), (.fz (.disp [(.int 2), (.int 4), (.int 4), (.int 12), (.int 60), (.bin .pow (.int 10) (.int 9))]))]),
    .ret (.prim .tuple [(.fz (.comp [3] (.call 7 [(.var 0), (.var 2)]) (.v 3) (.rng (.var 1)) .nop))])]⟩
def WyV (n : Nat) (t : Tv) : Prop := ∃ w : List Int, t = tsI w ∧ w.length = n ∧ ∀ x ∈ w, 0 ≤ x ∧ x ≤ 1000000000
abbrev S132 (m : FM) : Prop := ∀ (S : Sto) (b n : Nat), Dk b S → n ≤ 4 → b + 5 ≤ 900000 → (m [.cell 1, .int n] S).wp fun t S' => WyV n t ∧ Dk (b + 5) S' ∧ Grow S S'
theorem pow_9 {S : Sto} : binV .pow S (.int 10) (.int 9) = some (.int 1000000000) := rfl
theorem ok132 {cf : Nat → FM} (d7 : S7 (cf 7)) (d8 : S8 (cf 8)) : S132 (runD cf xLawWay) := fun S b n d hn hb => by
  refine run_draw rfl d (by omega) ?_
  show (exs cf Fu xLawWay.body [some (.cell 1), some (.int n), none, none] S).wp _
  unfold xLawWay
  have en : ((n : Nat) : Int).toNat = n := by omega
  have l6 : ∀ a b c d e f : Tv, (([a, b, c, d, e, f] : List Tv).length ≤ lim) = True := fun a b c d e f => by simp [lim]
  rw [q_asg]
  (try simp only [List.cons_append, List.nil_append, w_var, t_var, w_int, w_str, w_bl, w_non, w_gl, w_bin, w_neg, t_cmp, w_cmp, t_chain, w_chain, t_isC, w_isC, w_isi, t_isi, t_bop1, t_bop, w_bop1, w_bop, t_nt, w_nt, w_ite, t_ite, w_nil, w_cons, a_tup, w_fz, w_mu, a_disp, a_comp, w_ofSeq, w_call, w_prim, w_ix, w_sl, w_rev, w_pop, w_popAt, w_app, w_att, w_prop, w_mk, e_nop, e_int, e_var, e_bin, i_seq, a_rng, rngA_int, a_rng2, rngB_int, a_zip, zipA_some, a_enum, enA_some, src_tsI, src_lsI, t_call, t_prim, tru_bl, opt_some, t_nop, List.getElem?_cons_zero, List.getElem?_cons_succ, setTg, setTgs, List.set_cons_zero, List.set_cons_succ, wp_ok, wipeE, len0, len1, len2, len3, len4, len5, len6, len7, len8, len9, len10, if_true, if_false, Bool.false_eq_true, eq_int, ne_int, gt_int, lt_int', le_int', ge_int', add_int, sub_int, abs_int, int_int, Option.map_some, src_lst, src_tup, ix_t0, ix_t1, ix_t2, ix_t3, ix_l0, ix_l1, ix_l2, is_non, and_true, true_and, w_minD, w_cut, ft0, ft1, ft2, ft3, ix_pr0, ix_pr1, tup_ints, is_false0, Bool.not_true, Bool.not_false, pow_9, l6])
  refine d8.wp d (by omega) (by simp) (by simp) fun u S1 hu d1 g1 => ?_
  obtain ⟨q, rfl, q0, q1⟩ : ∃ q : Int, u = .int q ∧ 2 ≤ q ∧ q ≤ 1000000000 := by
    simp only [List.mem_cons, List.not_mem_nil, or_false] at hu
    rcases hu with rfl | rfl | rfl | rfl | rfl | rfl <;> exact ⟨_, rfl, by decide, by decide⟩
  rw [kA_eq]
  (try simp only [List.cons_append, List.nil_append, w_var, t_var, w_int, w_str, w_bl, w_non, w_gl, w_bin, w_neg, t_cmp, w_cmp, t_chain, w_chain, t_isC, w_isC, w_isi, t_isi, t_bop1, t_bop, w_bop1, w_bop, t_nt, w_nt, w_ite, t_ite, w_nil, w_cons, a_tup, w_fz, w_mu, a_disp, a_comp, w_ofSeq, w_call, w_prim, w_ix, w_sl, w_rev, w_pop, w_popAt, w_app, w_att, w_prop, w_mk, e_nop, e_int, e_var, e_bin, i_seq, a_rng, rngA_int, a_rng2, rngB_int, a_zip, zipA_some, a_enum, enA_some, src_tsI, src_lsI, t_call, t_prim, tru_bl, opt_some, t_nop, List.getElem?_cons_zero, List.getElem?_cons_succ, setTg, setTgs, List.set_cons_zero, List.set_cons_succ, wp_ok, wipeE, len0, len1, len2, len3, len4, len5, len6, len7, len8, len9, len10, if_true, if_false, Bool.false_eq_true, eq_int, ne_int, gt_int, lt_int', le_int', ge_int', add_int, sub_int, abs_int, int_int, Option.map_some, src_lst, src_tup, ix_t0, ix_t1, ix_t2, ix_t3, ix_l0, ix_l1, ix_l2, is_non, and_true, true_and, w_minD, w_cut, ft0, ft1, ft2, ft3, ix_pr0, ix_pr1, tup_ints, is_false0, Bool.not_true, Bool.not_false])
  rw [q_ret]
  (try simp only [List.cons_append, List.nil_append, w_var, t_var, w_int, w_str, w_bl, w_non, w_gl, w_bin, w_neg, t_cmp, w_cmp, t_chain, w_chain, t_isC, w_isC, w_isi, t_isi, t_bop1, t_bop, w_bop1, w_bop, t_nt, w_nt, w_ite, t_ite, w_nil, w_cons, a_tup, w_fz, w_mu, a_disp, a_comp, w_ofSeq, w_call, w_prim, w_ix, w_sl, w_rev, w_pop, w_popAt, w_app, w_att, w_prop, w_mk, e_nop, e_int, e_var, e_bin, i_seq, a_rng, rngA_int, a_rng2, rngB_int, a_zip, zipA_some, a_enum, enA_some, src_tsI, src_lsI, t_call, t_prim, tru_bl, opt_some, t_nop, List.getElem?_cons_zero, List.getElem?_cons_succ, setTg, setTgs, List.set_cons_zero, List.set_cons_succ, wp_ok, wipeE, len0, len1, len2, len3, len4, len5, len6, len7, len8, len9, len10, if_true, if_false, Bool.false_eq_true, eq_int, ne_int, gt_int, lt_int', le_int', ge_int', add_int, sub_int, abs_int, int_int, Option.map_some, src_lst, src_tup, ix_t0, ix_t1, ix_t2, ix_t3, ix_l0, ix_l1, ix_l2, is_non, and_true, true_and, w_minD, w_cut, ft0, ft1, ft2, ft3, ix_pr0, ix_pr1, tup_ints, is_false0, Bool.not_true, Bool.not_false])
  refine ⟨by omega, by rw [rngT_len']; simp [lim]; omega, ?_⟩
  rw [en]
  refine drawn_P (fun z => 0 ≤ z ∧ z ≤ 1000000000) d1 (n := n) (by omega) (by omega) (fun t S b hb d => ?_) fun ns S2 h1 h2 d2 g2 => ?_
  · (try simp only [List.cons_append, List.nil_append, w_var, t_var, w_int, w_str, w_bl, w_non, w_gl, w_bin, w_neg, t_cmp, w_cmp, t_chain, w_chain, t_isC, w_isC, w_isi, t_isi, t_bop1, t_bop, w_bop1, w_bop, t_nt, w_nt, w_ite, t_ite, w_nil, w_cons, a_tup, w_fz, w_mu, a_disp, a_comp, w_ofSeq, w_call, w_prim, w_ix, w_sl, w_rev, w_pop, w_popAt, w_app, w_att, w_prop, w_mk, e_nop, e_int, e_var, e_bin, i_seq, a_rng, rngA_int, a_rng2, rngB_int, a_zip, zipA_some, a_enum, enA_some, src_tsI, src_lsI, t_call, t_prim, tru_bl, opt_some, t_nop, List.getElem?_cons_zero, List.getElem?_cons_succ, setTg, setTgs, List.set_cons_zero, List.set_cons_succ, wp_ok, wipeE, len0, len1, len2, len3, len4, len5, len6, len7, len8, len9, len10, if_true, if_false, Bool.false_eq_true, eq_int, ne_int, gt_int, lt_int', le_int', ge_int', add_int, sub_int, abs_int, int_int, Option.map_some, src_lst, src_tup, ix_t0, ix_t1, ix_t2, ix_t3, ix_l0, ix_l1, ix_l2, is_non, and_true, true_and, w_minD, w_cut, ft0, ft1, ft2, ft3, ix_pr0, ix_pr1, tup_ints, is_false0, Bool.not_true, Bool.not_false])
    refine d7.wp d (by omega) (by omega) (by omega) fun v S3 v0 v1 d3 g3 => ?_
    exact ⟨⟨v, rfl, v0, by omega⟩, d3, g3⟩
  · (try simp only [List.cons_append, List.nil_append, w_var, t_var, w_int, w_str, w_bl, w_non, w_gl, w_bin, w_neg, t_cmp, w_cmp, t_chain, w_chain, t_isC, w_isC, w_isi, t_isi, t_bop1, t_bop, w_bop1, w_bop, t_nt, w_nt, w_ite, t_ite, w_nil, w_cons, a_tup, w_fz, w_mu, a_disp, a_comp, w_ofSeq, w_call, w_prim, w_ix, w_sl, w_rev, w_pop, w_popAt, w_app, w_att, w_prop, w_mk, e_nop, e_int, e_var, e_bin, i_seq, a_rng, rngA_int, a_rng2, rngB_int, a_zip, zipA_some, a_enum, enA_some, src_tsI, src_lsI, t_call, t_prim, tru_bl, opt_some, t_nop, List.getElem?_cons_zero, List.getElem?_cons_succ, setTg, setTgs, List.set_cons_zero, List.set_cons_succ, wp_ok, wipeE, len0, len1, len2, len3, len4, len5, len6, len7, len8, len9, len10, if_true, if_false, Bool.false_eq_true, eq_int, ne_int, gt_int, lt_int', le_int', ge_int', add_int, sub_int, abs_int, int_int, Option.map_some, src_lst, src_tup, ix_t0, ix_t1, ix_t2, ix_t3, ix_l0, ix_l1, ix_l2, is_non, and_true, true_and, w_minD, w_cut, ft0, ft1, ft2, ft3, ix_pr0, ix_pr1, tup_ints, is_false0, Bool.not_true, Bool.not_false, tup_ints])
    exact ⟨⟨ns, rfl, h1, h2⟩, d2.mono (by omega), g1.trans g2⟩
end Mp
namespace Mp
/-! ### k27 -/
end Mp
namespace Mp
/-! ### routes: plain -/
structure Rd where
  s : Int
  e : Int
  c : List Int
def rdT (r : Rd) : Tv := .tup [.int r.s, .int r.e, tsI r.c]
def mapT (P : Int) (R : List Rd) : Tv := .tup [.int P, .tup (R.map rdT)]
structure MapOk (n K : Nat) (P : Int) (R : List Rd) : Prop where
  p : 2 ≤ P ∧ P ≤ 6
  l : R.length ≤ 12
  w : ∀ r ∈ R, (0 ≤ r.s ∧ r.s < P) ∧ (0 ≤ r.e ∧ r.e < P) ∧ r.c.length = n ∧ ∀ x ∈ r.c, 0 ≤ x ∧ Bd K x
end Mp
namespace Mp
/-! ### routes: the walks -/
end Mp
namespace Mp
/-! ### the law's own routes; counts -/
end Mp
namespace Mp
/-! ### maps, drawn; what repr shows of them -/
def MapV (n : Nat) (t : Tv) : Prop := ∃ P R, t = mapT P R ∧ MapOk n 30 P R
def xLawMap : Df := ⟨7, 2,
  [
    .asg (.tup [(.v 3), (.v 4)]) (.tup [(.bin .add (.int 2) (.call 8 [(.var 0), (.fz (.disp [(.int 0), (.int 1), (.int 1), (.int 2), (.int 2), (.int 3), (.int 4)]))])), (.mu (.disp []))]),
    .forS (.v 2) (.rng (.call 8 [(.var 0), (.fz (.disp [(.int 1), (.int 3), (.int 5), (.int 7), (.int 9), (.int 12)]))]))
      [
        .asg (.v 5) (.call 7 [(.var 0), (.var 3)]),
        .asg (.v 6) (.bin .mod (.prim .int [(.bin .add (.bin .add (.var 5) (.int 1)) (.bin .mod (.prim .int [(.call 8 [(.var 0), (.fz (.disp [(.int 0), (.int 0), (.int 1), (.int 1), (.int 2), (.int 3)]))])]) (.bin .sub (.var 3) (.int 1))))]) (.var 3)),
        .drop (.app (.var 4) (.tup [(.var 5), (.var 6), (.call 132 [(.var 0), (.var 1)])]))],
    .ret (.tup [(.var 3), (.prim .tuple [(.var 4)])])]⟩
abbrev S136 (m : FM) : Prop := ∀ (S : Sto) (b n : Nat), Dk b S → n ≤ 4 → b + 100 ≤ 900000 → (m [.cell 1, .int n] S).wp fun t S' => MapV n t ∧ Dk (b + 100) S' ∧ Grow S S'
theorem ok136 {cf : Nat → FM} (d7 : S7 (cf 7)) (d8 : S8 (cf 8)) (d132 : S132 (cf 132)) : S136 (runD cf xLawMap) := fun S b n d hn hb => by
  refine run_draw rfl d (by omega) ?_
  show (exs cf Fu xLawMap.body [some (.cell 1), some (.int n), none, none, none, none, none] S).wp _
  unfold xLawMap
  have l0 : (([] : List Tv).length ≤ lim) = True := by simp [lim]
  have l2 : ∀ a b : Tv, (([a, b] : List Tv).length ≤ lim) = True := fun a b => by simp [lim]
  have l3 : ∀ a b c : Tv, (([a, b, c] : List Tv).length ≤ lim) = True := fun a b c => by simp [lim]
  have l6 : ∀ a b c d e f : Tv, (([a, b, c, d, e, f] : List Tv).length ≤ lim) = True := fun a b c d e f => by simp [lim]
  have l7 : ∀ a b c d e f g : Tv, (([a, b, c, d, e, f, g] : List Tv).length ≤ lim) = True := fun a b c d e f g => by simp [lim]
  rw [q_asg]
  (try simp only [List.cons_append, List.nil_append, w_var, t_var, w_int, w_str, w_bl, w_non, w_gl, w_bin, w_neg, t_cmp, w_cmp, t_chain, w_chain, t_isC, w_isC, w_isi, t_isi, t_bop1, t_bop, w_bop1, w_bop, t_nt, w_nt, w_ite, t_ite, w_nil, w_cons, a_tup, w_fz, w_mu, a_disp, a_comp, w_ofSeq, w_call, w_prim, w_ix, w_sl, w_rev, w_pop, w_popAt, w_app, w_att, w_prop, w_mk, e_nop, e_int, e_var, e_bin, i_seq, a_rng, rngA_int, a_rng2, rngB_int, a_zip, zipA_some, a_enum, enA_some, src_tsI, src_lsI, t_call, t_prim, tru_bl, opt_some, t_nop, List.getElem?_cons_zero, List.getElem?_cons_succ, setTg, setTgs, List.set_cons_zero, List.set_cons_succ, wp_ok, wipeE, len0, len1, len2, len3, len4, len5, len6, len7, len8, len9, len10, if_true, if_false, Bool.false_eq_true, eq_int, ne_int, gt_int, lt_int', le_int', ge_int', add_int, sub_int, abs_int, int_int, Option.map_some, src_lst, src_tup, ix_t0, ix_t1, ix_t2, ix_t3, ix_l0, ix_l1, ix_l2, is_non, and_true, true_and, w_minD, w_cut, ft0, ft1, ft2, ft3, ix_pr0, ix_pr1, tup_ints, is_false0, Bool.not_true, Bool.not_false, l7])
  refine d8.wp d (by omega) (by simp) (by simp) fun u S1 hu d1 g1 => ?_
  obtain ⟨p, rfl, p0, p1⟩ : ∃ p : Int, u = .int p ∧ 0 ≤ p ∧ p ≤ 4 := by
    simp only [List.mem_cons, List.not_mem_nil, or_false] at hu
    rcases hu with rfl | rfl | rfl | rfl | rfl | rfl | rfl <;> exact ⟨_, rfl, by decide, by decide⟩
  (try simp only [List.cons_append, List.nil_append, w_var, t_var, w_int, w_str, w_bl, w_non, w_gl, w_bin, w_neg, t_cmp, w_cmp, t_chain, w_chain, t_isC, w_isC, w_isi, t_isi, t_bop1, t_bop, w_bop1, w_bop, t_nt, w_nt, w_ite, t_ite, w_nil, w_cons, a_tup, w_fz, w_mu, a_disp, a_comp, w_ofSeq, w_call, w_prim, w_ix, w_sl, w_rev, w_pop, w_popAt, w_app, w_att, w_prop, w_mk, e_nop, e_int, e_var, e_bin, i_seq, a_rng, rngA_int, a_rng2, rngB_int, a_zip, zipA_some, a_enum, enA_some, src_tsI, src_lsI, t_call, t_prim, tru_bl, opt_some, t_nop, List.getElem?_cons_zero, List.getElem?_cons_succ, setTg, setTgs, List.set_cons_zero, List.set_cons_succ, wp_ok, wipeE, len0, len1, len2, len3, len4, len5, len6, len7, len8, len9, len10, if_true, if_false, Bool.false_eq_true, eq_int, ne_int, gt_int, lt_int', le_int', ge_int', add_int, sub_int, abs_int, int_int, Option.map_some, src_lst, src_tup, ix_t0, ix_t1, ix_t2, ix_t3, ix_l0, ix_l1, ix_l2, is_non, and_true, true_and, w_minD, w_cut, ft0, ft1, ft2, ft3, ix_pr0, ix_pr1, tup_ints, is_false0, Bool.not_true, Bool.not_false, l0, l2, alloc])
  rw [kA_eq]
  (try simp only [List.cons_append, List.nil_append, w_var, t_var, w_int, w_str, w_bl, w_non, w_gl, w_bin, w_neg, t_cmp, w_cmp, t_chain, w_chain, t_isC, w_isC, w_isi, t_isi, t_bop1, t_bop, w_bop1, w_bop, t_nt, w_nt, w_ite, t_ite, w_nil, w_cons, a_tup, w_fz, w_mu, a_disp, a_comp, w_ofSeq, w_call, w_prim, w_ix, w_sl, w_rev, w_pop, w_popAt, w_app, w_att, w_prop, w_mk, e_nop, e_int, e_var, e_bin, i_seq, a_rng, rngA_int, a_rng2, rngB_int, a_zip, zipA_some, a_enum, enA_some, src_tsI, src_lsI, t_call, t_prim, tru_bl, opt_some, t_nop, List.getElem?_cons_zero, List.getElem?_cons_succ, setTg, setTgs, List.set_cons_zero, List.set_cons_succ, wp_ok, wipeE, len0, len1, len2, len3, len4, len5, len6, len7, len8, len9, len10, if_true, if_false, Bool.false_eq_true, eq_int, ne_int, gt_int, lt_int', le_int', ge_int', add_int, sub_int, abs_int, int_int, Option.map_some, src_lst, src_tup, ix_t0, ix_t1, ix_t2, ix_t3, ix_l0, ix_l1, ix_l2, is_non, and_true, true_and, w_minD, w_cut, ft0, ft1, ft2, ft3, ix_pr0, ix_pr1, tup_ints, is_false0, Bool.not_true, Bool.not_false])
  rw [q_for]
  have two := d1.two
  have da : Dk (b + 1) (S1 ++ [.lst []]) := d1.app
  have ga : Grow S (S1 ++ [.lst []]) := g1.trans Grow.app
  (try simp only [List.cons_append, List.nil_append, w_var, t_var, w_int, w_str, w_bl, w_non, w_gl, w_bin, w_neg, t_cmp, w_cmp, t_chain, w_chain, t_isC, w_isC, w_isi, t_isi, t_bop1, t_bop, w_bop1, w_bop, t_nt, w_nt, w_ite, t_ite, w_nil, w_cons, a_tup, w_fz, w_mu, a_disp, a_comp, w_ofSeq, w_call, w_prim, w_ix, w_sl, w_rev, w_pop, w_popAt, w_app, w_att, w_prop, w_mk, e_nop, e_int, e_var, e_bin, i_seq, a_rng, rngA_int, a_rng2, rngB_int, a_zip, zipA_some, a_enum, enA_some, src_tsI, src_lsI, t_call, t_prim, tru_bl, opt_some, t_nop, List.getElem?_cons_zero, List.getElem?_cons_succ, setTg, setTgs, List.set_cons_zero, List.set_cons_succ, wp_ok, wipeE, len0, len1, len2, len3, len4, len5, len6, len7, len8, len9, len10, if_true, if_false, Bool.false_eq_true, eq_int, ne_int, gt_int, lt_int', le_int', ge_int', add_int, sub_int, abs_int, int_int, Option.map_some, src_lst, src_tup, ix_t0, ix_t1, ix_t2, ix_t3, ix_l0, ix_l1, ix_l2, is_non, and_true, true_and, w_minD, w_cut, ft0, ft1, ft2, ft3, ix_pr0, ix_pr1, tup_ints, is_false0, Bool.not_true, Bool.not_false, l6])
  refine d8.wp da (by omega) (by simp) (by simp) fun u S2 hu d2 g2 => ?_
  obtain ⟨m, rfl, m1⟩ : ∃ m : Nat, u = .int (m : Int) ∧ m ≤ 12 := by
    simp only [List.mem_cons, List.not_mem_nil, or_false] at hu
    rcases hu with rfl | rfl | rfl | rfl | rfl | rfl
    · exact ⟨1, rfl, by decide⟩
    · exact ⟨3, rfl, by decide⟩
    · exact ⟨5, rfl, by decide⟩
    · exact ⟨7, rfl, by decide⟩
    · exact ⟨9, rfl, by decide⟩
    · exact ⟨12, rfl, by decide⟩
  (try simp only [List.cons_append, List.nil_append, w_var, t_var, w_int, w_str, w_bl, w_non, w_gl, w_bin, w_neg, t_cmp, w_cmp, t_chain, w_chain, t_isC, w_isC, w_isi, t_isi, t_bop1, t_bop, w_bop1, w_bop, t_nt, w_nt, w_ite, t_ite, w_nil, w_cons, a_tup, w_fz, w_mu, a_disp, a_comp, w_ofSeq, w_call, w_prim, w_ix, w_sl, w_rev, w_pop, w_popAt, w_app, w_att, w_prop, w_mk, e_nop, e_int, e_var, e_bin, i_seq, a_rng, rngA_int, a_rng2, rngB_int, a_zip, zipA_some, a_enum, enA_some, src_tsI, src_lsI, t_call, t_prim, tru_bl, opt_some, t_nop, List.getElem?_cons_zero, List.getElem?_cons_succ, setTg, setTgs, List.set_cons_zero, List.set_cons_succ, wp_ok, wipeE, len0, len1, len2, len3, len4, len5, len6, len7, len8, len9, len10, if_true, if_false, Bool.false_eq_true, eq_int, ne_int, gt_int, lt_int', le_int', ge_int', add_int, sub_int, abs_int, int_int, Option.map_some, src_lst, src_tup, ix_t0, ix_t1, ix_t2, ix_t3, ix_l0, ix_l1, ix_l2, is_non, and_true, true_and, w_minD, w_cut, ft0, ft1, ft2, ft3, ix_pr0, ix_pr1, tup_ints, is_false0, Bool.not_true, Bool.not_false])
  refine ⟨by omega, ?_⟩
  have own0 : S2[S1.length]? = some (.lst (([] : List Rd).map rdT)) := g2.own end_at two
  generalize hP : 2 + p = P at *
  rw [rngT_map, kF_eq]
  refine for_on (fun dn r env S' => ∃ R : List Rd, R.length = dn.length ∧ dn.length + r.length = m ∧ MapOk n 30 P R ∧ S'[S1.length]? = some (.lst (R.map rdT)) ∧ Dk (b + 2 + 7 * dn.length) S' ∧ Grow S S' ∧ ∃ j2 j5 j6 : Option Tv, env = [some (.cell 1), some (.int n), j2, some (.int P), some (.cell S1.length), j5, j6]) (fun _ _ _ _ _ => rfl) ?_ ?_
    ⟨[], rfl, by simp, ⟨by omega, by simp, fun r hr => (List.not_mem_nil hr).elim⟩, own0, d2, ga.trans g2, _, _, _, rfl⟩
  · rintro dn i r env S3 - ⟨R, hR, hlen, hM, h3, d3, g3, j2, j5, j6, rfl⟩
    simp only [List.length_cons] at hlen
    (try simp only [List.cons_append, List.nil_append, w_var, t_var, w_int, w_str, w_bl, w_non, w_gl, w_bin, w_neg, t_cmp, w_cmp, t_chain, w_chain, t_isC, w_isC, w_isi, t_isi, t_bop1, t_bop, w_bop1, w_bop, t_nt, w_nt, w_ite, t_ite, w_nil, w_cons, a_tup, w_fz, w_mu, a_disp, a_comp, w_ofSeq, w_call, w_prim, w_ix, w_sl, w_rev, w_pop, w_popAt, w_app, w_att, w_prop, w_mk, e_nop, e_int, e_var, e_bin, i_seq, a_rng, rngA_int, a_rng2, rngB_int, a_zip, zipA_some, a_enum, enA_some, src_tsI, src_lsI, t_call, t_prim, tru_bl, opt_some, t_nop, List.getElem?_cons_zero, List.getElem?_cons_succ, setTg, setTgs, List.set_cons_zero, List.set_cons_succ, wp_ok, wipeE, len0, len1, len2, len3, len4, len5, len6, len7, len8, len9, len10, if_true, if_false, Bool.false_eq_true, eq_int, ne_int, gt_int, lt_int', le_int', ge_int', add_int, sub_int, abs_int, int_int, Option.map_some, src_lst, src_tup, ix_t0, ix_t1, ix_t2, ix_t3, ix_l0, ix_l1, ix_l2, is_non, and_true, true_and, w_minD, w_cut, ft0, ft1, ft2, ft3, ix_pr0, ix_pr1, tup_ints, is_false0, Bool.not_true, Bool.not_false])
    rw [q_asg]
    (try simp only [List.cons_append, List.nil_append, w_var, t_var, w_int, w_str, w_bl, w_non, w_gl, w_bin, w_neg, t_cmp, w_cmp, t_chain, w_chain, t_isC, w_isC, w_isi, t_isi, t_bop1, t_bop, w_bop1, w_bop, t_nt, w_nt, w_ite, t_ite, w_nil, w_cons, a_tup, w_fz, w_mu, a_disp, a_comp, w_ofSeq, w_call, w_prim, w_ix, w_sl, w_rev, w_pop, w_popAt, w_app, w_att, w_prop, w_mk, e_nop, e_int, e_var, e_bin, i_seq, a_rng, rngA_int, a_rng2, rngB_int, a_zip, zipA_some, a_enum, enA_some, src_tsI, src_lsI, t_call, t_prim, tru_bl, opt_some, t_nop, List.getElem?_cons_zero, List.getElem?_cons_succ, setTg, setTgs, List.set_cons_zero, List.set_cons_succ, wp_ok, wipeE, len0, len1, len2, len3, len4, len5, len6, len7, len8, len9, len10, if_true, if_false, Bool.false_eq_true, eq_int, ne_int, gt_int, lt_int', le_int', ge_int', add_int, sub_int, abs_int, int_int, Option.map_some, src_lst, src_tup, ix_t0, ix_t1, ix_t2, ix_t3, ix_l0, ix_l1, ix_l2, is_non, and_true, true_and, w_minD, w_cut, ft0, ft1, ft2, ft3, ix_pr0, ix_pr1, tup_ints, is_false0, Bool.not_true, Bool.not_false])
    refine d7.wp d3 (by omega) (by omega) (by omega) fun v S4 v0 v1 d4 g4 => ?_
    rw [kA_eq]
    (try simp only [List.cons_append, List.nil_append, w_var, t_var, w_int, w_str, w_bl, w_non, w_gl, w_bin, w_neg, t_cmp, w_cmp, t_chain, w_chain, t_isC, w_isC, w_isi, t_isi, t_bop1, t_bop, w_bop1, w_bop, t_nt, w_nt, w_ite, t_ite, w_nil, w_cons, a_tup, w_fz, w_mu, a_disp, a_comp, w_ofSeq, w_call, w_prim, w_ix, w_sl, w_rev, w_pop, w_popAt, w_app, w_att, w_prop, w_mk, e_nop, e_int, e_var, e_bin, i_seq, a_rng, rngA_int, a_rng2, rngB_int, a_zip, zipA_some, a_enum, enA_some, src_tsI, src_lsI, t_call, t_prim, tru_bl, opt_some, t_nop, List.getElem?_cons_zero, List.getElem?_cons_succ, setTg, setTgs, List.set_cons_zero, List.set_cons_succ, wp_ok, wipeE, len0, len1, len2, len3, len4, len5, len6, len7, len8, len9, len10, if_true, if_false, Bool.false_eq_true, eq_int, ne_int, gt_int, lt_int', le_int', ge_int', add_int, sub_int, abs_int, int_int, Option.map_some, src_lst, src_tup, ix_t0, ix_t1, ix_t2, ix_t3, ix_l0, ix_l1, ix_l2, is_non, and_true, true_and, w_minD, w_cut, ft0, ft1, ft2, ft3, ix_pr0, ix_pr1, tup_ints, is_false0, Bool.not_true, Bool.not_false])
    rw [q_asg]
    (try simp only [List.cons_append, List.nil_append, w_var, t_var, w_int, w_str, w_bl, w_non, w_gl, w_bin, w_neg, t_cmp, w_cmp, t_chain, w_chain, t_isC, w_isC, w_isi, t_isi, t_bop1, t_bop, w_bop1, w_bop, t_nt, w_nt, w_ite, t_ite, w_nil, w_cons, a_tup, w_fz, w_mu, a_disp, a_comp, w_ofSeq, w_call, w_prim, w_ix, w_sl, w_rev, w_pop, w_popAt, w_app, w_att, w_prop, w_mk, e_nop, e_int, e_var, e_bin, i_seq, a_rng, rngA_int, a_rng2, rngB_int, a_zip, zipA_some, a_enum, enA_some, src_tsI, src_lsI, t_call, t_prim, tru_bl, opt_some, t_nop, List.getElem?_cons_zero, List.getElem?_cons_succ, setTg, setTgs, List.set_cons_zero, List.set_cons_succ, wp_ok, wipeE, len0, len1, len2, len3, len4, len5, len6, len7, len8, len9, len10, if_true, if_false, Bool.false_eq_true, eq_int, ne_int, gt_int, lt_int', le_int', ge_int', add_int, sub_int, abs_int, int_int, Option.map_some, src_lst, src_tup, ix_t0, ix_t1, ix_t2, ix_t3, ix_l0, ix_l1, ix_l2, is_non, and_true, true_and, w_minD, w_cut, ft0, ft1, ft2, ft3, ix_pr0, ix_pr1, tup_ints, is_false0, Bool.not_true, Bool.not_false, l6])
    refine d8.wp d4 (by omega) (by simp) (by simp) fun u S5 hu d5 g5 => ?_
    obtain ⟨e, rfl, e0⟩ : ∃ e : Int, u = .int e ∧ 0 ≤ e := by
      simp only [List.mem_cons, List.not_mem_nil, or_false] at hu
      rcases hu with rfl | rfl | rfl | rfl | rfl | rfl <;> exact ⟨_, rfl, by decide⟩
    have m1' : ∀ S, binV .mod S (.int e) (.int (P - 1)) = some (.int (e % (P - 1))) := fun S => mod_int (by omega)
    have m2' : ∀ S (y : Int), binV .mod S (.int y) (.int P) = some (.int (y % P)) := fun S y => mod_int (by omega)
    (try simp only [List.cons_append, List.nil_append, w_var, t_var, w_int, w_str, w_bl, w_non, w_gl, w_bin, w_neg, t_cmp, w_cmp, t_chain, w_chain, t_isC, w_isC, w_isi, t_isi, t_bop1, t_bop, w_bop1, w_bop, t_nt, w_nt, w_ite, t_ite, w_nil, w_cons, a_tup, w_fz, w_mu, a_disp, a_comp, w_ofSeq, w_call, w_prim, w_ix, w_sl, w_rev, w_pop, w_popAt, w_app, w_att, w_prop, w_mk, e_nop, e_int, e_var, e_bin, i_seq, a_rng, rngA_int, a_rng2, rngB_int, a_zip, zipA_some, a_enum, enA_some, src_tsI, src_lsI, t_call, t_prim, tru_bl, opt_some, t_nop, List.getElem?_cons_zero, List.getElem?_cons_succ, setTg, setTgs, List.set_cons_zero, List.set_cons_succ, wp_ok, wipeE, len0, len1, len2, len3, len4, len5, len6, len7, len8, len9, len10, if_true, if_false, Bool.false_eq_true, eq_int, ne_int, gt_int, lt_int', le_int', ge_int', add_int, sub_int, abs_int, int_int, Option.map_some, src_lst, src_tup, ix_t0, ix_t1, ix_t2, ix_t3, ix_l0, ix_l1, ix_l2, is_non, and_true, true_and, w_minD, w_cut, ft0, ft1, ft2, ft3, ix_pr0, ix_pr1, tup_ints, is_false0, Bool.not_true, Bool.not_false, m1', m2'])
    generalize hE : (v + 1 + e % (P - 1)) % P = E
    have E0 : 0 ≤ E := by rw [← hE]; exact Int.emod_nonneg _ (by omega)
    have E1 : E < P := by rw [← hE]; exact Int.emod_lt_of_pos _ (by omega)
    rw [kA_eq]
    (try simp only [List.cons_append, List.nil_append, w_var, t_var, w_int, w_str, w_bl, w_non, w_gl, w_bin, w_neg, t_cmp, w_cmp, t_chain, w_chain, t_isC, w_isC, w_isi, t_isi, t_bop1, t_bop, w_bop1, w_bop, t_nt, w_nt, w_ite, t_ite, w_nil, w_cons, a_tup, w_fz, w_mu, a_disp, a_comp, w_ofSeq, w_call, w_prim, w_ix, w_sl, w_rev, w_pop, w_popAt, w_app, w_att, w_prop, w_mk, e_nop, e_int, e_var, e_bin, i_seq, a_rng, rngA_int, a_rng2, rngB_int, a_zip, zipA_some, a_enum, enA_some, src_tsI, src_lsI, t_call, t_prim, tru_bl, opt_some, t_nop, List.getElem?_cons_zero, List.getElem?_cons_succ, setTg, setTgs, List.set_cons_zero, List.set_cons_succ, wp_ok, wipeE, len0, len1, len2, len3, len4, len5, len6, len7, len8, len9, len10, if_true, if_false, Bool.false_eq_true, eq_int, ne_int, gt_int, lt_int', le_int', ge_int', add_int, sub_int, abs_int, int_int, Option.map_some, src_lst, src_tup, ix_t0, ix_t1, ix_t2, ix_t3, ix_l0, ix_l1, ix_l2, is_non, and_true, true_and, w_minD, w_cut, ft0, ft1, ft2, ft3, ix_pr0, ix_pr1, tup_ints, is_false0, Bool.not_true, Bool.not_false])
    rw [q_drop]
    have h5 := g5.own (g4.own h3 two) two
    (try simp only [List.cons_append, List.nil_append, w_var, t_var, w_int, w_str, w_bl, w_non, w_gl, w_bin, w_neg, t_cmp, w_cmp, t_chain, w_chain, t_isC, w_isC, w_isi, t_isi, t_bop1, t_bop, w_bop1, w_bop, t_nt, w_nt, w_ite, t_ite, w_nil, w_cons, a_tup, w_fz, w_mu, a_disp, a_comp, w_ofSeq, w_call, w_prim, w_ix, w_sl, w_rev, w_pop, w_popAt, w_app, w_att, w_prop, w_mk, e_nop, e_int, e_var, e_bin, i_seq, a_rng, rngA_int, a_rng2, rngB_int, a_zip, zipA_some, a_enum, enA_some, src_tsI, src_lsI, t_call, t_prim, tru_bl, opt_some, t_nop, List.getElem?_cons_zero, List.getElem?_cons_succ, setTg, setTgs, List.set_cons_zero, List.set_cons_succ, wp_ok, wipeE, len0, len1, len2, len3, len4, len5, len6, len7, len8, len9, len10, if_true, if_false, Bool.false_eq_true, eq_int, ne_int, gt_int, lt_int', le_int', ge_int', add_int, sub_int, abs_int, int_int, Option.map_some, src_lst, src_tup, ix_t0, ix_t1, ix_t2, ix_t3, ix_l0, ix_l1, ix_l2, is_non, and_true, true_and, w_minD, w_cut, ft0, ft1, ft2, ft3, ix_pr0, ix_pr1, tup_ints, is_false0, Bool.not_true, Bool.not_false, need_at h5])
    refine wp_mono (d132 S5 _ n d5 hn (by omega)) ?_
    rintro t S6 ⟨⟨w, rfl, wl, wb⟩, d6, g6⟩
    have h6 := g6.own h5 two
    (try simp only [List.cons_append, List.nil_append, w_var, t_var, w_int, w_str, w_bl, w_non, w_gl, w_bin, w_neg, t_cmp, w_cmp, t_chain, w_chain, t_isC, w_isC, w_isi, t_isi, t_bop1, t_bop, w_bop1, w_bop, t_nt, w_nt, w_ite, t_ite, w_nil, w_cons, a_tup, w_fz, w_mu, a_disp, a_comp, w_ofSeq, w_call, w_prim, w_ix, w_sl, w_rev, w_pop, w_popAt, w_app, w_att, w_prop, w_mk, e_nop, e_int, e_var, e_bin, i_seq, a_rng, rngA_int, a_rng2, rngB_int, a_zip, zipA_some, a_enum, enA_some, src_tsI, src_lsI, t_call, t_prim, tru_bl, opt_some, t_nop, List.getElem?_cons_zero, List.getElem?_cons_succ, setTg, setTgs, List.set_cons_zero, List.set_cons_succ, wp_ok, wipeE, len0, len1, len2, len3, len4, len5, len6, len7, len8, len9, len10, if_true, if_false, Bool.false_eq_true, eq_int, ne_int, gt_int, lt_int', le_int', ge_int', add_int, sub_int, abs_int, int_int, Option.map_some, src_lst, src_tup, ix_t0, ix_t1, ix_t2, ix_t3, ix_l0, ix_l1, ix_l2, is_non, and_true, true_and, w_minD, w_cut, ft0, ft1, ft2, ft3, ix_pr0, ix_pr1, tup_ints, is_false0, Bool.not_true, Bool.not_false, l3])
    rw [app_at h6 (by rw [List.length_map]; omega), kD_eq, exs_nil]
    have hlt : S1.length < S6.length := (List.getElem?_eq_some_iff.mp h6).1
    have el : S1.length ≥ S.length := g1.le
    refine ⟨R ++ [⟨v, E, w⟩], by simp [hR], by simp; omega, ⟨hM.p, by rw [List.length_append, List.length_singleton]; omega, fun q hq => ?_⟩, ?_, (d6.set two).mono (by rw [List.length_append, List.length_singleton]; omega), (((g3.trans g4).trans g5).trans g6).set el, _, _, _, rfl⟩
    · rcases List.mem_append.mp hq with hq | hq
      · exact hM.w q hq
      · rw [List.mem_singleton.mp hq]
        exact ⟨⟨v0, v1⟩, ⟨E0, E1⟩, wl, fun x hx => ⟨(wb x hx).1, Bd.of (m := 1000000000) (by have := wb x hx; omega) (by decide)⟩⟩
    · rw [List.getElem?_set_self hlt, List.map_append]
      rfl
  · rintro env S3 ⟨R, hR, hlen, hM, h3, d3, g3, j2, j5, j6, rfl⟩
    show kR _ _ _ _ _ _
    rw [kR_eq, q_ret]
    have sq : primV .tuple S3 [.cell S1.length] = some (.tup (R.map rdT)) := by
      show (seqOf S3 (.cell S1.length)).map Tv.tup = _
      have : seqOf S3 (.cell S1.length) = some (R.map rdT) := by
        show (match S3[S1.length]? with
          | some (.lst ts) => some ts
          | _ => none) = _
        rw [h3]
      rw [this]
      rfl
    (try simp only [List.cons_append, List.nil_append, w_var, t_var, w_int, w_str, w_bl, w_non, w_gl, w_bin, w_neg, t_cmp, w_cmp, t_chain, w_chain, t_isC, w_isC, w_isi, t_isi, t_bop1, t_bop, w_bop1, w_bop, t_nt, w_nt, w_ite, t_ite, w_nil, w_cons, a_tup, w_fz, w_mu, a_disp, a_comp, w_ofSeq, w_call, w_prim, w_ix, w_sl, w_rev, w_pop, w_popAt, w_app, w_att, w_prop, w_mk, e_nop, e_int, e_var, e_bin, i_seq, a_rng, rngA_int, a_rng2, rngB_int, a_zip, zipA_some, a_enum, enA_some, src_tsI, src_lsI, t_call, t_prim, tru_bl, opt_some, t_nop, List.getElem?_cons_zero, List.getElem?_cons_succ, setTg, setTgs, List.set_cons_zero, List.set_cons_succ, wp_ok, wipeE, len0, len1, len2, len3, len4, len5, len6, len7, len8, len9, len10, if_true, if_false, Bool.false_eq_true, eq_int, ne_int, gt_int, lt_int', le_int', ge_int', add_int, sub_int, abs_int, int_int, Option.map_some, src_lst, src_tup, ix_t0, ix_t1, ix_t2, ix_t3, ix_l0, ix_l1, ix_l2, is_non, and_true, true_and, w_minD, w_cut, ft0, ft1, ft2, ft3, ix_pr0, ix_pr1, tup_ints, is_false0, Bool.not_true, Bool.not_false, sq, l2])
    exact ⟨⟨P, R, rfl, hM⟩, d3.mono (by rw [List.length_range]; omega), g3⟩
end Mp
namespace Mp
/-! ### k17 -/
theorem MkV.ok {n : Nat} {M : List (List Int)} (h1 : M ≠ []) (h2 : M.length ≤ 8) (h : ∀ w ∈ M, WayS n w) : MkOk n 12 M := ways_mk h1 (by omega) h
end Mp
namespace Mp
/-! ### routes chosen -/
end Mp
namespace Mp
/-! ### parallel roads -/
end Mp
namespace Mp
/-! ### what is no map -/
def xIsWay : Df := ⟨2, 2,
  [
    .ret (.call 44 [(.var 1), (.var 0), (.bin .sub (.bin .pow (.int 10) (.int 60)) (.int 1))])]⟩
theorem pow_60 {S : Sto} : binV .pow S (.int 10) (.int 60) = some (.int 1000000000000000000000000000000000000000000000000000000000000) := rfl
def xIsRoad : Df := ⟨3, 3,
  [
    .ifS (.bop false [(.nt (.call 41 [(.var 2), (.int 3), (.int 3)])), (.nt (.call 145 [(.var 0), (.ix (.var 2) (.int 2))]))])
      [
        .ret (.bl false)]
      [],
    .ifS (.bop false [(.nt (.call 34 [(.ix (.var 2) (.int 0)), (.int 0), (.bin .sub (.var 1) (.int 1))])), (.nt (.call 34 [(.ix (.var 2) (.int 1)), (.int 0), (.bin .sub (.var 1) (.int 1))]))])
      [
        .ret (.bl false)]
      [],
    .ret (.cmp .ne (.ix (.var 2) (.int 0)) (.ix (.var 2) (.int 1)))]⟩
def xMapError : Df := ⟨4, 2,
  [
    .ifS (.bop false [(.nt (.call 41 [(.var 1), (.int 2), (.int 2)])), (.nt (.call 34 [(.ix (.var 1) (.int 0)), (.int 2), (.gl "MAX_PLACES" (.int 6))])), (.nt (.call 41 [(.ix (.var 1) (.int 1)), (.int 0), (.gl "MAX_ROADS" (.int 12))]))])
      [
        .ret (.tup [(.neg (.int 1)), (.str "map")])]
      [],
    .forS (.tup [(.v 2), (.v 3)]) (.enum (.ix (.var 1) (.int 1)))
      [
        .ifS (.nt (.call 146 [(.var 0), (.ix (.var 1) (.int 0)), (.var 3)]))
          [
            .ret (.tup [(.var 2), (.str "road")])]
          []],
    .ret .non]⟩
end Mp
namespace Mp
/-! ### values of any kind -/
def isT : Tv → Bool
  | .tup _ => true
  | _ => false
def isI : Tv → Bool
  | .int _ => true
  | .bl _ => true
  | _ => false
def isB : Tv → Bool
  | .bl _ => true
  | _ => false
/-- an int from lo to hi, no bool -/
def inB (lo hi : Int) : Tv → Bool
  | .int i => decide (lo ≤ i) && decide (i ≤ hi)
  | _ => false
theorem isi_T {k : Nat} {t : Tv} (h : Tv.rOk k t = true) {S : Sto} : isiV .tuple S t = some (isT t) := by
  cases k <;> cases t <;> first | rfl | (simp [Tv.rOk] at h)
theorem isi_I {k : Nat} {t : Tv} (h : Tv.rOk k t = true) {S : Sto} : isiV .int S t = some (isI t) := by
  cases k <;> cases t <;> first | rfl | (simp [Tv.rOk] at h)
theorem isi_B {k : Nat} {t : Tv} (h : Tv.rOk k t = true) {S : Sto} : isiV .bool S t = some (isB t) := by
  cases k <;> cases t <;> first | rfl | (simp [Tv.rOk] at h)
mutual
theorem rOk_mono : ∀ {t : Tv} {k l : Nat}, k ≤ l → Tv.rOk k t = true → Tv.rOk l t = true
  | .tup ts, k, l, h, r => by
    cases k with
    | zero => simp [Tv.rOk] at r
    | succ k =>
      cases l with
      | zero => exact absurd h (by omega)
      | succ l =>
        simp only [Tv.rOk] at r ⊢
        exact rOks_mono (by omega) r
  | .lst ts, k, l, h, r => by
    cases k with
    | zero => simp [Tv.rOk] at r
    | succ k =>
      cases l with
      | zero => exact absurd h (by omega)
      | succ l =>
        simp only [Tv.rOk] at r ⊢
        exact rOks_mono (by omega) r
  | .non, _, _, _, _ => by simp [Tv.rOk]
  | .bl _, _, _, _, _ => by simp [Tv.rOk]
  | .dct, _, _, _, _ => by simp [Tv.rOk]
  | .int _, _, _, _, r => by simpa [Tv.rOk] using r
  | .str _, _, _, _, r => by simpa [Tv.rOk] using r
  | .scr _, k, _, _, r => by cases k <;> simp [Tv.rOk] at r
  | .ins _ _, k, _, _, r => by cases k <;> simp [Tv.rOk] at r
  | .cell _, k, _, _, r => by cases k <;> simp [Tv.rOk] at r
theorem rOks_mono : ∀ {ts : List Tv} {k l : Nat}, k ≤ l → Tv.rOks k ts = true → Tv.rOks l ts = true
  | [], _, _, _, _ => by simp [Tv.rOks]
  | t :: r, k, l, h, e => by
    simp only [Tv.rOks, Bool.and_eq_true] at e ⊢
    exact ⟨rOk_mono h e.1, rOks_mono h e.2⟩
end
theorem rOks_all : ∀ {ts : List Tv} {k : Nat}, Tv.rOks k ts = true ↔ ∀ t ∈ ts, Tv.rOk k t = true
  | [], _ => by simp [Tv.rOks]
  | t :: r, k => by
    simp only [Tv.rOks, Bool.and_eq_true, List.mem_cons, forall_eq_or_imp, rOks_all (ts := r)]
theorem rOk_tup {ts : List Tv} {k : Nat} (h : Tv.rOk k (.tup ts) = true) : ∃ j, k = j + 1 ∧ ∀ t ∈ ts, Tv.rOk j t = true := by
  cases k with
  | zero => simp [Tv.rOk] at h
  | succ k =>
    simp only [Tv.rOk] at h
    exact ⟨k, rfl, rOks_all.mp h⟩
theorem len_tup {S : Sto} {ts : List Tv} : primV .len S [.tup ts] = some (.int (ts.length : Int)) := rfl
abbrev S34c (m : FM) : Prop := ∀ (S : Sto) (t : Tv) (lo hi : Int) (k : Nat), Tv.rOk k t = true → m [t, .int lo, .int hi] S = .ok (.bl (inB lo hi t)) S
theorem ok34c {cf : Nat → FM} : S34c (runD cf xLawIsInt) := fun S t lo hi k h => by
  refine run_eq rfl ?_
  show (exs cf Fu xLawIsInt.body [some t, some (.int lo), some (.int hi)] S).wp _
  unfold xLawIsInt
  have i1 : ∀ S, isiV .int S t = some (isI t) := fun S => isi_I h
  have i2 : ∀ S, isiV .bool S t = some (isB t) := fun S => isi_B h
  rw [q_ret]
  (try simp only [List.cons_append, List.nil_append, w_var, t_var, w_int, w_str, w_bl, w_non, w_gl, w_bin, w_neg, t_cmp, w_cmp, t_chain, w_chain, t_isC, w_isC, w_isi, t_isi, t_bop1, t_bop, w_bop1, w_bop, t_nt, w_nt, w_ite, t_ite, w_nil, w_cons, a_tup, w_fz, w_mu, a_disp, a_comp, w_ofSeq, w_call, w_prim, w_ix, w_sl, w_rev, w_pop, w_popAt, w_app, w_att, w_prop, w_mk, e_nop, e_int, e_var, e_bin, i_seq, a_rng, rngA_int, a_rng2, rngB_int, a_zip, zipA_some, a_enum, enA_some, src_tsI, src_lsI, t_call, t_prim, tru_bl, opt_some, t_nop, List.getElem?_cons_zero, List.getElem?_cons_succ, setTg, setTgs, List.set_cons_zero, List.set_cons_succ, wp_ok, wipeE, len0, len1, len2, len3, len4, len5, len6, len7, len8, len9, len10, if_true, if_false, Bool.false_eq_true, eq_int, ne_int, gt_int, lt_int', le_int', ge_int', add_int, sub_int, abs_int, int_int, Option.map_some, src_lst, src_tup, ix_t0, ix_t1, ix_t2, ix_t3, ix_l0, ix_l1, ix_l2, is_non, and_true, true_and, w_minD, w_cut, ft0, ft1, ft2, ft3, ix_pr0, ix_pr1, tup_ints, is_false0, Bool.not_true, Bool.not_false, i1])
  by_cases c : ∃ i, t = .int i
  · obtain ⟨i, rfl⟩ := c
    (try simp only [List.cons_append, List.nil_append, w_var, t_var, w_int, w_str, w_bl, w_non, w_gl, w_bin, w_neg, t_cmp, w_cmp, t_chain, w_chain, t_isC, w_isC, w_isi, t_isi, t_bop1, t_bop, w_bop1, w_bop, t_nt, w_nt, w_ite, t_ite, w_nil, w_cons, a_tup, w_fz, w_mu, a_disp, a_comp, w_ofSeq, w_call, w_prim, w_ix, w_sl, w_rev, w_pop, w_popAt, w_app, w_att, w_prop, w_mk, e_nop, e_int, e_var, e_bin, i_seq, a_rng, rngA_int, a_rng2, rngB_int, a_zip, zipA_some, a_enum, enA_some, src_tsI, src_lsI, t_call, t_prim, tru_bl, opt_some, t_nop, List.getElem?_cons_zero, List.getElem?_cons_succ, setTg, setTgs, List.set_cons_zero, List.set_cons_succ, wp_ok, wipeE, len0, len1, len2, len3, len4, len5, len6, len7, len8, len9, len10, if_true, if_false, Bool.false_eq_true, eq_int, ne_int, gt_int, lt_int', le_int', ge_int', add_int, sub_int, abs_int, int_int, Option.map_some, src_lst, src_tup, ix_t0, ix_t1, ix_t2, ix_t3, ix_l0, ix_l1, ix_l2, is_non, and_true, true_and, w_minD, w_cut, ft0, ft1, ft2, ft3, ix_pr0, ix_pr1, tup_ints, is_false0, Bool.not_true, Bool.not_false, i1, i2, show isI (.int i) = true from rfl, show isB (.int i) = false from rfl])
    by_cases a : lo ≤ i
    · by_cases b : i ≤ hi
      · simp [a, b, inB]
      · simp [a, b, inB]
    · simp [a, inB]
  · have e : inB lo hi t = false := by
      cases t <;> first | rfl | exact absurd ⟨_, rfl⟩ c
    rw [e]
    cases hb : isI t
    · (try simp only [List.cons_append, List.nil_append, w_var, t_var, w_int, w_str, w_bl, w_non, w_gl, w_bin, w_neg, t_cmp, w_cmp, t_chain, w_chain, t_isC, w_isC, w_isi, t_isi, t_bop1, t_bop, w_bop1, w_bop, t_nt, w_nt, w_ite, t_ite, w_nil, w_cons, a_tup, w_fz, w_mu, a_disp, a_comp, w_ofSeq, w_call, w_prim, w_ix, w_sl, w_rev, w_pop, w_popAt, w_app, w_att, w_prop, w_mk, e_nop, e_int, e_var, e_bin, i_seq, a_rng, rngA_int, a_rng2, rngB_int, a_zip, zipA_some, a_enum, enA_some, src_tsI, src_lsI, t_call, t_prim, tru_bl, opt_some, t_nop, List.getElem?_cons_zero, List.getElem?_cons_succ, setTg, setTgs, List.set_cons_zero, List.set_cons_succ, wp_ok, wipeE, len0, len1, len2, len3, len4, len5, len6, len7, len8, len9, len10, if_true, if_false, Bool.false_eq_true, eq_int, ne_int, gt_int, lt_int', le_int', ge_int', add_int, sub_int, abs_int, int_int, Option.map_some, src_lst, src_tup, ix_t0, ix_t1, ix_t2, ix_t3, ix_l0, ix_l1, ix_l2, is_non, and_true, true_and, w_minD, w_cut, ft0, ft1, ft2, ft3, ix_pr0, ix_pr1, tup_ints, is_false0, Bool.not_true, Bool.not_false])
    · (try simp only [List.cons_append, List.nil_append, w_var, t_var, w_int, w_str, w_bl, w_non, w_gl, w_bin, w_neg, t_cmp, w_cmp, t_chain, w_chain, t_isC, w_isC, w_isi, t_isi, t_bop1, t_bop, w_bop1, w_bop, t_nt, w_nt, w_ite, t_ite, w_nil, w_cons, a_tup, w_fz, w_mu, a_disp, a_comp, w_ofSeq, w_call, w_prim, w_ix, w_sl, w_rev, w_pop, w_popAt, w_app, w_att, w_prop, w_mk, e_nop, e_int, e_var, e_bin, i_seq, a_rng, rngA_int, a_rng2, rngB_int, a_zip, zipA_some, a_enum, enA_some, src_tsI, src_lsI, t_call, t_prim, tru_bl, opt_some, t_nop, List.getElem?_cons_zero, List.getElem?_cons_succ, setTg, setTgs, List.set_cons_zero, List.set_cons_succ, wp_ok, wipeE, len0, len1, len2, len3, len4, len5, len6, len7, len8, len9, len10, if_true, if_false, Bool.false_eq_true, eq_int, ne_int, gt_int, lt_int', le_int', ge_int', add_int, sub_int, abs_int, int_int, Option.map_some, src_lst, src_tup, ix_t0, ix_t1, ix_t2, ix_t3, ix_l0, ix_l1, ix_l2, is_non, and_true, true_and, w_minD, w_cut, ft0, ft1, ft2, ft3, ix_pr0, ix_pr1, tup_ints, is_false0, Bool.not_true, Bool.not_false, i2])
      have b : isB t = true := by
        cases t <;> first | rfl | exact absurd ⟨_, rfl⟩ c | cases hb
      rw [b]
      (try simp only [List.cons_append, List.nil_append, w_var, t_var, w_int, w_str, w_bl, w_non, w_gl, w_bin, w_neg, t_cmp, w_cmp, t_chain, w_chain, t_isC, w_isC, w_isi, t_isi, t_bop1, t_bop, w_bop1, w_bop, t_nt, w_nt, w_ite, t_ite, w_nil, w_cons, a_tup, w_fz, w_mu, a_disp, a_comp, w_ofSeq, w_call, w_prim, w_ix, w_sl, w_rev, w_pop, w_popAt, w_app, w_att, w_prop, w_mk, e_nop, e_int, e_var, e_bin, i_seq, a_rng, rngA_int, a_rng2, rngB_int, a_zip, zipA_some, a_enum, enA_some, src_tsI, src_lsI, t_call, t_prim, tru_bl, opt_some, t_nop, List.getElem?_cons_zero, List.getElem?_cons_succ, setTg, setTgs, List.set_cons_zero, List.set_cons_succ, wp_ok, wipeE, len0, len1, len2, len3, len4, len5, len6, len7, len8, len9, len10, if_true, if_false, Bool.false_eq_true, eq_int, ne_int, gt_int, lt_int', le_int', ge_int', add_int, sub_int, abs_int, int_int, Option.map_some, src_lst, src_tup, ix_t0, ix_t1, ix_t2, ix_t3, ix_l0, ix_l1, ix_l2, is_non, and_true, true_and, w_minD, w_cut, ft0, ft1, ft2, ft3, ix_pr0, ix_pr1, tup_ints, is_false0, Bool.not_true, Bool.not_false])
/-- a tuple of lo to hi things -/
def lenB (lo hi : Int) : Tv → Bool
  | .tup ts => decide (lo ≤ ts.length) && decide ((ts.length : Int) ≤ hi)
  | _ => false
abbrev S41c (m : FM) : Prop := ∀ (S : Sto) (t : Tv) (lo hi : Int) (k : Nat), Tv.rOk k t = true → m [t, .int lo, .int hi] S = .ok (.bl (lenB lo hi t)) S
theorem not_tup {t : Tv} (c : ¬ ∃ ts, t = .tup ts) : isT t = false := by
  cases t <;> first | rfl | exact absurd ⟨_, rfl⟩ c
theorem ok41c {cf : Nat → FM} : S41c (runD cf xIsTuple) := fun S t lo hi k h => by
  refine run_eq rfl ?_
  show (exs cf Fu xIsTuple.body [some t, some (.int lo), some (.int hi)] S).wp _
  unfold xIsTuple
  have i1 : ∀ S, isiV .tuple S t = some (isT t) := fun S => isi_T h
  rw [q_ret]
  (try simp only [List.cons_append, List.nil_append, w_var, t_var, w_int, w_str, w_bl, w_non, w_gl, w_bin, w_neg, t_cmp, w_cmp, t_chain, w_chain, t_isC, w_isC, w_isi, t_isi, t_bop1, t_bop, w_bop1, w_bop, t_nt, w_nt, w_ite, t_ite, w_nil, w_cons, a_tup, w_fz, w_mu, a_disp, a_comp, w_ofSeq, w_call, w_prim, w_ix, w_sl, w_rev, w_pop, w_popAt, w_app, w_att, w_prop, w_mk, e_nop, e_int, e_var, e_bin, i_seq, a_rng, rngA_int, a_rng2, rngB_int, a_zip, zipA_some, a_enum, enA_some, src_tsI, src_lsI, t_call, t_prim, tru_bl, opt_some, t_nop, List.getElem?_cons_zero, List.getElem?_cons_succ, setTg, setTgs, List.set_cons_zero, List.set_cons_succ, wp_ok, wipeE, len0, len1, len2, len3, len4, len5, len6, len7, len8, len9, len10, if_true, if_false, Bool.false_eq_true, eq_int, ne_int, gt_int, lt_int', le_int', ge_int', add_int, sub_int, abs_int, int_int, Option.map_some, src_lst, src_tup, ix_t0, ix_t1, ix_t2, ix_t3, ix_l0, ix_l1, ix_l2, is_non, and_true, true_and, w_minD, w_cut, ft0, ft1, ft2, ft3, ix_pr0, ix_pr1, tup_ints, is_false0, Bool.not_true, Bool.not_false, i1])
  by_cases c : ∃ ts, t = .tup ts
  · obtain ⟨ts, rfl⟩ := c
    (try simp only [List.cons_append, List.nil_append, w_var, t_var, w_int, w_str, w_bl, w_non, w_gl, w_bin, w_neg, t_cmp, w_cmp, t_chain, w_chain, t_isC, w_isC, w_isi, t_isi, t_bop1, t_bop, w_bop1, w_bop, t_nt, w_nt, w_ite, t_ite, w_nil, w_cons, a_tup, w_fz, w_mu, a_disp, a_comp, w_ofSeq, w_call, w_prim, w_ix, w_sl, w_rev, w_pop, w_popAt, w_app, w_att, w_prop, w_mk, e_nop, e_int, e_var, e_bin, i_seq, a_rng, rngA_int, a_rng2, rngB_int, a_zip, zipA_some, a_enum, enA_some, src_tsI, src_lsI, t_call, t_prim, tru_bl, opt_some, t_nop, List.getElem?_cons_zero, List.getElem?_cons_succ, setTg, setTgs, List.set_cons_zero, List.set_cons_succ, wp_ok, wipeE, len0, len1, len2, len3, len4, len5, len6, len7, len8, len9, len10, if_true, if_false, Bool.false_eq_true, eq_int, ne_int, gt_int, lt_int', le_int', ge_int', add_int, sub_int, abs_int, int_int, Option.map_some, src_lst, src_tup, ix_t0, ix_t1, ix_t2, ix_t3, ix_l0, ix_l1, ix_l2, is_non, and_true, true_and, w_minD, w_cut, ft0, ft1, ft2, ft3, ix_pr0, ix_pr1, tup_ints, is_false0, Bool.not_true, Bool.not_false, show isT (.tup ts) = true from rfl, len_tup])
    by_cases a : lo ≤ ts.length
    · simp [a, lenB]
    · simp [a, lenB]
  · rw [not_tup c]
    (try simp only [List.cons_append, List.nil_append, w_var, t_var, w_int, w_str, w_bl, w_non, w_gl, w_bin, w_neg, t_cmp, w_cmp, t_chain, w_chain, t_isC, w_isC, w_isi, t_isi, t_bop1, t_bop, w_bop1, w_bop, t_nt, w_nt, w_ite, t_ite, w_nil, w_cons, a_tup, w_fz, w_mu, a_disp, a_comp, w_ofSeq, w_call, w_prim, w_ix, w_sl, w_rev, w_pop, w_popAt, w_app, w_att, w_prop, w_mk, e_nop, e_int, e_var, e_bin, i_seq, a_rng, rngA_int, a_rng2, rngB_int, a_zip, zipA_some, a_enum, enA_some, src_tsI, src_lsI, t_call, t_prim, tru_bl, opt_some, t_nop, List.getElem?_cons_zero, List.getElem?_cons_succ, setTg, setTgs, List.set_cons_zero, List.set_cons_succ, wp_ok, wipeE, len0, len1, len2, len3, len4, len5, len6, len7, len8, len9, len10, if_true, if_false, Bool.false_eq_true, eq_int, ne_int, gt_int, lt_int', le_int', ge_int', add_int, sub_int, abs_int, int_int, Option.map_some, src_lst, src_tup, ix_t0, ix_t1, ix_t2, ix_t3, ix_l0, ix_l1, ix_l2, is_non, and_true, true_and, w_minD, w_cut, ft0, ft1, ft2, ft3, ix_pr0, ix_pr1, tup_ints, is_false0, Bool.not_true, Bool.not_false])
    cases t <;> first | rfl | exact absurd ⟨_, rfl⟩ c
/-- a tuple of n ints from 0 on, to a most -/
def rowB (n : Nat) (most : Int) : Tv → Bool
  | .tup ts => decide (ts.length = n) && ts.all (inB 0 most)
  | _ => false
abbrev S44c (m : FM) : Prop := ∀ (S : Sto) (t : Tv) (n : Nat) (most : Int) (k : Nat), Tv.rOk k t = true → n ≤ 1000 → m [t, .int n, .int most] S = .ok (.bl (rowB n most t)) S
theorem ok44c {cf : Nat → FM} (d34 : S34c (cf 34)) (d41 : S41c (cf 41)) : S44c (runD cf xAreIntegers) := fun S t n most k h hn => by
  refine run_eq rfl ?_
  show (exs cf Fu xAreIntegers.body [some t, some (.int n), some (.int most), none] S).wp _
  unfold xAreIntegers
  rw [q_ret]
  (try simp only [List.cons_append, List.nil_append, w_var, t_var, w_int, w_str, w_bl, w_non, w_gl, w_bin, w_neg, t_cmp, w_cmp, t_chain, w_chain, t_isC, w_isC, w_isi, t_isi, t_bop1, t_bop, w_bop1, w_bop, t_nt, w_nt, w_ite, t_ite, w_nil, w_cons, a_tup, w_fz, w_mu, a_disp, a_comp, w_ofSeq, w_call, w_prim, w_ix, w_sl, w_rev, w_pop, w_popAt, w_app, w_att, w_prop, w_mk, e_nop, e_int, e_var, e_bin, i_seq, a_rng, rngA_int, a_rng2, rngB_int, a_zip, zipA_some, a_enum, enA_some, src_tsI, src_lsI, t_call, t_prim, tru_bl, opt_some, t_nop, List.getElem?_cons_zero, List.getElem?_cons_succ, setTg, setTgs, List.set_cons_zero, List.set_cons_succ, wp_ok, wipeE, len0, len1, len2, len3, len4, len5, len6, len7, len8, len9, len10, if_true, if_false, Bool.false_eq_true, eq_int, ne_int, gt_int, lt_int', le_int', ge_int', add_int, sub_int, abs_int, int_int, Option.map_some, src_lst, src_tup, ix_t0, ix_t1, ix_t2, ix_t3, ix_l0, ix_l1, ix_l2, is_non, and_true, true_and, w_minD, w_cut, ft0, ft1, ft2, ft3, ix_pr0, ix_pr1, tup_ints, is_false0, Bool.not_true, Bool.not_false, d41 _ t n n k h])
  by_cases c : ∃ ts, t = .tup ts
  · obtain ⟨ts, rfl⟩ := c
    obtain ⟨j, rfl, ht⟩ := rOk_tup h
    by_cases e : ts.length = n
    · have e1 : lenB n n (.tup ts) = true := by
        unfold lenB
        rw [Bool.and_eq_true]
        exact ⟨decide_eq_true (by omega), decide_eq_true (by omega)⟩
      have ln : (ts.length ≤ lim) = True := eq_true (by unfold lim; omega)
      (try simp only [List.cons_append, List.nil_append, w_var, t_var, w_int, w_str, w_bl, w_non, w_gl, w_bin, w_neg, t_cmp, w_cmp, t_chain, w_chain, t_isC, w_isC, w_isi, t_isi, t_bop1, t_bop, w_bop1, w_bop, t_nt, w_nt, w_ite, t_ite, w_nil, w_cons, a_tup, w_fz, w_mu, a_disp, a_comp, w_ofSeq, w_call, w_prim, w_ix, w_sl, w_rev, w_pop, w_popAt, w_app, w_att, w_prop, w_mk, e_nop, e_int, e_var, e_bin, i_seq, a_rng, rngA_int, a_rng2, rngB_int, a_zip, zipA_some, a_enum, enA_some, src_tsI, src_lsI, t_call, t_prim, tru_bl, opt_some, t_nop, List.getElem?_cons_zero, List.getElem?_cons_succ, setTg, setTgs, List.set_cons_zero, List.set_cons_succ, wp_ok, wipeE, len0, len1, len2, len3, len4, len5, len6, len7, len8, len9, len10, if_true, if_false, Bool.false_eq_true, eq_int, ne_int, gt_int, lt_int', le_int', ge_int', add_int, sub_int, abs_int, int_int, Option.map_some, src_lst, src_tup, ix_t0, ix_t1, ix_t2, ix_t3, ix_l0, ix_l1, ix_l2, is_non, and_true, true_and, w_minD, w_cut, ft0, ft1, ft2, ft3, ix_pr0, ix_pr1, tup_ints, is_false0, Bool.not_true, Bool.not_false, e1, ln])
      have em : ts = ts.map id := (List.map_id ts).symm
      rw [em]
      rw [comp_all (f := id) (fun x => Tv.bl (inB 0 most x)) rfl (fun x hx => by
        (try simp only [exs_nil, q_asg, kA_eq, kR_eq, q_drop, kD_eq, q_ret, q_if, kI_t, kI_f, q_set, kS_eq, q_pass, q_brk, q_cont, q_for, kF_eq, List.cons_append, List.nil_append, w_var, t_var, w_int, w_str, w_bl, w_non, w_gl, w_bin, w_neg, t_cmp, w_cmp, t_chain, w_chain, t_isC, w_isC, w_isi, t_isi, t_bop1, t_bop, w_bop1, w_bop, t_nt, w_nt, w_ite, t_ite, w_nil, w_cons, a_tup, w_fz, w_mu, a_disp, a_comp, w_ofSeq, w_call, w_prim, w_ix, w_sl, w_rev, w_pop, w_popAt, w_app, w_att, w_prop, w_mk, q_setAtt, e_nop, e_int, e_var, e_bin, i_seq, a_rng, rngA_int, a_rng2, rngB_int, a_zip, zipA_some, a_enum, enA_some, src_tsI, src_lsI, t_call, t_prim, tru_bl, opt_some, t_nop, List.getElem?_cons_zero, List.getElem?_cons_succ, setTg, setTgs, List.set_cons_zero, List.set_cons_succ, wp_ok, wipeE, len0, len1, len2, len3, len4, len5, len6, len7, len8, len9, len10, if_true, if_false, Bool.false_eq_true, eq_int, ne_int, gt_int, lt_int', le_int', ge_int', add_int, sub_int, abs_int, int_int, Option.map_some, src_lst, src_tup, ix_t0, ix_t1, ix_t2, ix_t3, ix_l0, ix_l1, ix_l2, is_non, and_true, true_and, w_minD, w_cut, ft0, ft1, ft2, ft3, ix_pr0, ix_pr1, tup_ints, is_false0, Bool.not_true, Bool.not_false, id, d34 _ x 0 most j (ht x hx)]))]
      rw [← em]
      (try simp only [List.cons_append, List.nil_append, w_var, t_var, w_int, w_str, w_bl, w_non, w_gl, w_bin, w_neg, t_cmp, w_cmp, t_chain, w_chain, t_isC, w_isC, w_isi, t_isi, t_bop1, t_bop, w_bop1, w_bop, t_nt, w_nt, w_ite, t_ite, w_nil, w_cons, a_tup, w_fz, w_mu, a_disp, a_comp, w_ofSeq, w_call, w_prim, w_ix, w_sl, w_rev, w_pop, w_popAt, w_app, w_att, w_prop, w_mk, e_nop, e_int, e_var, e_bin, i_seq, a_rng, rngA_int, a_rng2, rngB_int, a_zip, zipA_some, a_enum, enA_some, src_tsI, src_lsI, t_call, t_prim, tru_bl, opt_some, t_nop, List.getElem?_cons_zero, List.getElem?_cons_succ, setTg, setTgs, List.set_cons_zero, List.set_cons_succ, wp_ok, wipeE, len0, len1, len2, len3, len4, len5, len6, len7, len8, len9, len10, if_true, if_false, Bool.false_eq_true, eq_int, ne_int, gt_int, lt_int', le_int', ge_int', add_int, sub_int, abs_int, int_int, Option.map_some, src_lst, src_tup, ix_t0, ix_t1, ix_t2, ix_t3, ix_l0, ix_l1, ix_l2, is_non, and_true, true_and, w_minD, w_cut, ft0, ft1, ft2, ft3, ix_pr0, ix_pr1, tup_ints, is_false0, Bool.not_true, Bool.not_false, all_bls])
      simp [rowB, e]
    · have e1 : lenB n n (.tup ts) = false := by
        rw [Bool.eq_false_iff]
        intro z
        unfold lenB at z
        rw [Bool.and_eq_true] at z
        have := of_decide_eq_true z.1
        have := of_decide_eq_true z.2
        omega
      (try simp only [List.cons_append, List.nil_append, w_var, t_var, w_int, w_str, w_bl, w_non, w_gl, w_bin, w_neg, t_cmp, w_cmp, t_chain, w_chain, t_isC, w_isC, w_isi, t_isi, t_bop1, t_bop, w_bop1, w_bop, t_nt, w_nt, w_ite, t_ite, w_nil, w_cons, a_tup, w_fz, w_mu, a_disp, a_comp, w_ofSeq, w_call, w_prim, w_ix, w_sl, w_rev, w_pop, w_popAt, w_app, w_att, w_prop, w_mk, e_nop, e_int, e_var, e_bin, i_seq, a_rng, rngA_int, a_rng2, rngB_int, a_zip, zipA_some, a_enum, enA_some, src_tsI, src_lsI, t_call, t_prim, tru_bl, opt_some, t_nop, List.getElem?_cons_zero, List.getElem?_cons_succ, setTg, setTgs, List.set_cons_zero, List.set_cons_succ, wp_ok, wipeE, len0, len1, len2, len3, len4, len5, len6, len7, len8, len9, len10, if_true, if_false, Bool.false_eq_true, eq_int, ne_int, gt_int, lt_int', le_int', ge_int', add_int, sub_int, abs_int, int_int, Option.map_some, src_lst, src_tup, ix_t0, ix_t1, ix_t2, ix_t3, ix_l0, ix_l1, ix_l2, is_non, and_true, true_and, w_minD, w_cut, ft0, ft1, ft2, ft3, ix_pr0, ix_pr1, tup_ints, is_false0, Bool.not_true, Bool.not_false, e1])
      simp [rowB, e]
  · have e : rowB n most t = false := by cases t <;> first | rfl | exact absurd ⟨_, rfl⟩ c
    rw [e]
    have e1 : lenB n n t = false := by cases t <;> first | rfl | exact absurd ⟨_, rfl⟩ c
    (try simp only [List.cons_append, List.nil_append, w_var, t_var, w_int, w_str, w_bl, w_non, w_gl, w_bin, w_neg, t_cmp, w_cmp, t_chain, w_chain, t_isC, w_isC, w_isi, t_isi, t_bop1, t_bop, w_bop1, w_bop, t_nt, w_nt, w_ite, t_ite, w_nil, w_cons, a_tup, w_fz, w_mu, a_disp, a_comp, w_ofSeq, w_call, w_prim, w_ix, w_sl, w_rev, w_pop, w_popAt, w_app, w_att, w_prop, w_mk, e_nop, e_int, e_var, e_bin, i_seq, a_rng, rngA_int, a_rng2, rngB_int, a_zip, zipA_some, a_enum, enA_some, src_tsI, src_lsI, t_call, t_prim, tru_bl, opt_some, t_nop, List.getElem?_cons_zero, List.getElem?_cons_succ, setTg, setTgs, List.set_cons_zero, List.set_cons_succ, wp_ok, wipeE, len0, len1, len2, len3, len4, len5, len6, len7, len8, len9, len10, if_true, if_false, Bool.false_eq_true, eq_int, ne_int, gt_int, lt_int', le_int', ge_int', add_int, sub_int, abs_int, int_int, Option.map_some, src_lst, src_tup, ix_t0, ix_t1, ix_t2, ix_t3, ix_l0, ix_l1, ix_l2, is_non, and_true, true_and, w_minD, w_cut, ft0, ft1, ft2, ft3, ix_pr0, ix_pr1, tup_ints, is_false0, Bool.not_true, Bool.not_false, e1])
/-- a way: counts below 10 ** 60 -/
abbrev wayB (n : Nat) (t : Tv) : Bool := rowB n 999999999999999999999999999999999999999999999999999999999999 t
abbrev S145c (m : FM) : Prop := ∀ (S : Sto) (t : Tv) (n : Nat) (k : Nat), Tv.rOk k t = true → n ≤ 1000 → m [.int n, t] S = .ok (.bl (wayB n t)) S
theorem ok145c {cf : Nat → FM} (d44 : S44c (cf 44)) : S145c (runD cf xIsWay) := fun S t n k h hn => by
  refine run_eq rfl ?_
  show (exs cf Fu xIsWay.body [some (.int n), some t] S).wp _
  unfold xIsWay
  rw [q_ret]
  (try simp only [List.cons_append, List.nil_append, w_var, t_var, w_int, w_str, w_bl, w_non, w_gl, w_bin, w_neg, t_cmp, w_cmp, t_chain, w_chain, t_isC, w_isC, w_isi, t_isi, t_bop1, t_bop, w_bop1, w_bop, t_nt, w_nt, w_ite, t_ite, w_nil, w_cons, a_tup, w_fz, w_mu, a_disp, a_comp, w_ofSeq, w_call, w_prim, w_ix, w_sl, w_rev, w_pop, w_popAt, w_app, w_att, w_prop, w_mk, e_nop, e_int, e_var, e_bin, i_seq, a_rng, rngA_int, a_rng2, rngB_int, a_zip, zipA_some, a_enum, enA_some, src_tsI, src_lsI, t_call, t_prim, tru_bl, opt_some, t_nop, List.getElem?_cons_zero, List.getElem?_cons_succ, setTg, setTgs, List.set_cons_zero, List.set_cons_succ, wp_ok, wipeE, len0, len1, len2, len3, len4, len5, len6, len7, len8, len9, len10, if_true, if_false, Bool.false_eq_true, eq_int, ne_int, gt_int, lt_int', le_int', ge_int', add_int, sub_int, abs_int, int_int, Option.map_some, src_lst, src_tup, ix_t0, ix_t1, ix_t2, ix_t3, ix_l0, ix_l1, ix_l2, is_non, and_true, true_and, w_minD, w_cut, ft0, ft1, ft2, ft3, ix_pr0, ix_pr1, tup_ints, is_false0, Bool.not_true, Bool.not_false, pow_60, show (1000000000000000000000000000000000000000000000000000000000000 : Int) - 1 = 999999999999999999999999999999999999999999999999999999999999 from rfl, d44 _ t n _ k h hn])
/-- the law's own way: counts from 0 on -/
def natB : Tv → Bool
  | .int i => decide (0 ≤ i)
  | _ => false
def wayL (n : Nat) : Tv → Bool
  | .tup ts => decide (ts.length = n) && ts.all natB
  | _ => false
theorem none_of {α : Type} {p : α → Bool} : ∀ {xs : List α}, (xs.filter fun x => !p x).isEmpty = xs.all p
  | [] => rfl
  | x :: xs => by
    simp only [List.filter_cons, List.all_cons]
    cases p x
    · rfl
    · simp only [Bool.not_true, Bool.true_and]
      exact none_of
abbrev S120c (m : FM) : Prop := ∀ (S : Sto) (t : Tv) (n : Nat) (k : Nat), Tv.rOk k t = true → n ≤ 1000 → m [.int n, t] S = .ok (.bl (wayL n t)) S
theorem ok120c {cf : Nat → FM} : S120c (runD cf xLawIsWay) := fun S t n k h hn => by
  refine run_eq rfl ?_
  show (exs cf Fu xLawIsWay.body [some (.int n), some t, none] S).wp _
  unfold xLawIsWay
  have i1 : ∀ S, isiV .tuple S t = some (isT t) := fun S => isi_T h
  rw [q_if]
  (try simp only [List.cons_append, List.nil_append, w_var, t_var, w_int, w_str, w_bl, w_non, w_gl, w_bin, w_neg, t_cmp, w_cmp, t_chain, w_chain, t_isC, w_isC, w_isi, t_isi, t_bop1, t_bop, w_bop1, w_bop, t_nt, w_nt, w_ite, t_ite, w_nil, w_cons, a_tup, w_fz, w_mu, a_disp, a_comp, w_ofSeq, w_call, w_prim, w_ix, w_sl, w_rev, w_pop, w_popAt, w_app, w_att, w_prop, w_mk, e_nop, e_int, e_var, e_bin, i_seq, a_rng, rngA_int, a_rng2, rngB_int, a_zip, zipA_some, a_enum, enA_some, src_tsI, src_lsI, t_call, t_prim, tru_bl, opt_some, t_nop, List.getElem?_cons_zero, List.getElem?_cons_succ, setTg, setTgs, List.set_cons_zero, List.set_cons_succ, wp_ok, wipeE, len0, len1, len2, len3, len4, len5, len6, len7, len8, len9, len10, if_true, if_false, Bool.false_eq_true, eq_int, ne_int, gt_int, lt_int', le_int', ge_int', add_int, sub_int, abs_int, int_int, Option.map_some, src_lst, src_tup, ix_t0, ix_t1, ix_t2, ix_t3, ix_l0, ix_l1, ix_l2, is_non, and_true, true_and, w_minD, w_cut, ft0, ft1, ft2, ft3, ix_pr0, ix_pr1, tup_ints, is_false0, Bool.not_true, Bool.not_false, i1])
  by_cases c : ∃ ts, t = .tup ts
  · obtain ⟨ts, rfl⟩ := c
    obtain ⟨j, rfl, ht⟩ := rOk_tup h
    (try simp only [List.cons_append, List.nil_append, w_var, t_var, w_int, w_str, w_bl, w_non, w_gl, w_bin, w_neg, t_cmp, w_cmp, t_chain, w_chain, t_isC, w_isC, w_isi, t_isi, t_bop1, t_bop, w_bop1, w_bop, t_nt, w_nt, w_ite, t_ite, w_nil, w_cons, a_tup, w_fz, w_mu, a_disp, a_comp, w_ofSeq, w_call, w_prim, w_ix, w_sl, w_rev, w_pop, w_popAt, w_app, w_att, w_prop, w_mk, e_nop, e_int, e_var, e_bin, i_seq, a_rng, rngA_int, a_rng2, rngB_int, a_zip, zipA_some, a_enum, enA_some, src_tsI, src_lsI, t_call, t_prim, tru_bl, opt_some, t_nop, List.getElem?_cons_zero, List.getElem?_cons_succ, setTg, setTgs, List.set_cons_zero, List.set_cons_succ, wp_ok, wipeE, len0, len1, len2, len3, len4, len5, len6, len7, len8, len9, len10, if_true, if_false, Bool.false_eq_true, eq_int, ne_int, gt_int, lt_int', le_int', ge_int', add_int, sub_int, abs_int, int_int, Option.map_some, src_lst, src_tup, ix_t0, ix_t1, ix_t2, ix_t3, ix_l0, ix_l1, ix_l2, is_non, and_true, true_and, w_minD, w_cut, ft0, ft1, ft2, ft3, ix_pr0, ix_pr1, tup_ints, is_false0, Bool.not_true, Bool.not_false, show isT (.tup ts) = true from rfl, len_tup])
    by_cases e : ts.length = n
    · have e1 : (!((ts.length : Int) == (n : Int))) = false := by simp [e]
      have ln : (ts.length ≤ lim) = True := eq_true (by unfold lim; omega)
      rw [e1, kI_f, List.nil_append, q_ret]
      (try simp only [List.cons_append, List.nil_append, w_var, t_var, w_int, w_str, w_bl, w_non, w_gl, w_bin, w_neg, t_cmp, w_cmp, t_chain, w_chain, t_isC, w_isC, w_isi, t_isi, t_bop1, t_bop, w_bop1, w_bop, t_nt, w_nt, w_ite, t_ite, w_nil, w_cons, a_tup, w_fz, w_mu, a_disp, a_comp, w_ofSeq, w_call, w_prim, w_ix, w_sl, w_rev, w_pop, w_popAt, w_app, w_att, w_prop, w_mk, e_nop, e_int, e_var, e_bin, i_seq, a_rng, rngA_int, a_rng2, rngB_int, a_zip, zipA_some, a_enum, enA_some, src_tsI, src_lsI, t_call, t_prim, tru_bl, opt_some, t_nop, List.getElem?_cons_zero, List.getElem?_cons_succ, setTg, setTgs, List.set_cons_zero, List.set_cons_succ, wp_ok, wipeE, len0, len1, len2, len3, len4, len5, len6, len7, len8, len9, len10, if_true, if_false, Bool.false_eq_true, eq_int, ne_int, gt_int, lt_int', le_int', ge_int', add_int, sub_int, abs_int, int_int, Option.map_some, src_lst, src_tup, ix_t0, ix_t1, ix_t2, ix_t3, ix_l0, ix_l1, ix_l2, is_non, and_true, true_and, w_minD, w_cut, ft0, ft1, ft2, ft3, ix_pr0, ix_pr1, tup_ints, is_false0, Bool.not_true, Bool.not_false, ln])
      have em : ts = ts.map id := (List.map_id ts).symm
      rw [em]
      rw [comp_on (f := id) (fun x => !natB x) (fun _ => Tv.int 1) rfl (fun x hx => by
        have hx := ht x hx
        have i1 : ∀ S, isiV .int S x = some (isI x) := fun S => isi_I hx
        have i2 : ∀ S, isiV .bool S x = some (isB x) := fun S => isi_B hx
        (try simp only [exs_nil, q_asg, kA_eq, kR_eq, q_drop, kD_eq, q_ret, q_if, kI_t, kI_f, q_set, kS_eq, q_pass, q_brk, q_cont, q_for, kF_eq, List.cons_append, List.nil_append, w_var, t_var, w_int, w_str, w_bl, w_non, w_gl, w_bin, w_neg, t_cmp, w_cmp, t_chain, w_chain, t_isC, w_isC, w_isi, t_isi, t_bop1, t_bop, w_bop1, w_bop, t_nt, w_nt, w_ite, t_ite, w_nil, w_cons, a_tup, w_fz, w_mu, a_disp, a_comp, w_ofSeq, w_call, w_prim, w_ix, w_sl, w_rev, w_pop, w_popAt, w_app, w_att, w_prop, w_mk, q_setAtt, e_nop, e_int, e_var, e_bin, i_seq, a_rng, rngA_int, a_rng2, rngB_int, a_zip, zipA_some, a_enum, enA_some, src_tsI, src_lsI, t_call, t_prim, tru_bl, opt_some, t_nop, List.getElem?_cons_zero, List.getElem?_cons_succ, setTg, setTgs, List.set_cons_zero, List.set_cons_succ, wp_ok, wipeE, len0, len1, len2, len3, len4, len5, len6, len7, len8, len9, len10, if_true, if_false, Bool.false_eq_true, eq_int, ne_int, gt_int, lt_int', le_int', ge_int', add_int, sub_int, abs_int, int_int, Option.map_some, src_lst, src_tup, ix_t0, ix_t1, ix_t2, ix_t3, ix_l0, ix_l1, ix_l2, is_non, and_true, true_and, w_minD, w_cut, ft0, ft1, ft2, ft3, ix_pr0, ix_pr1, tup_ints, is_false0, Bool.not_true, Bool.not_false, id, i1])
        by_cases ci : ∃ i, x = .int i
        · obtain ⟨i, rfl⟩ := ci
          (try simp only [exs_nil, q_asg, kA_eq, kR_eq, q_drop, kD_eq, q_ret, q_if, kI_t, kI_f, q_set, kS_eq, q_pass, q_brk, q_cont, q_for, kF_eq, List.cons_append, List.nil_append, w_var, t_var, w_int, w_str, w_bl, w_non, w_gl, w_bin, w_neg, t_cmp, w_cmp, t_chain, w_chain, t_isC, w_isC, w_isi, t_isi, t_bop1, t_bop, w_bop1, w_bop, t_nt, w_nt, w_ite, t_ite, w_nil, w_cons, a_tup, w_fz, w_mu, a_disp, a_comp, w_ofSeq, w_call, w_prim, w_ix, w_sl, w_rev, w_pop, w_popAt, w_app, w_att, w_prop, w_mk, q_setAtt, e_nop, e_int, e_var, e_bin, i_seq, a_rng, rngA_int, a_rng2, rngB_int, a_zip, zipA_some, a_enum, enA_some, src_tsI, src_lsI, t_call, t_prim, tru_bl, opt_some, t_nop, List.getElem?_cons_zero, List.getElem?_cons_succ, setTg, setTgs, List.set_cons_zero, List.set_cons_succ, wp_ok, wipeE, len0, len1, len2, len3, len4, len5, len6, len7, len8, len9, len10, if_true, if_false, Bool.false_eq_true, eq_int, ne_int, gt_int, lt_int', le_int', ge_int', add_int, sub_int, abs_int, int_int, Option.map_some, src_lst, src_tup, ix_t0, ix_t1, ix_t2, ix_t3, ix_l0, ix_l1, ix_l2, is_non, and_true, true_and, w_minD, w_cut, ft0, ft1, ft2, ft3, ix_pr0, ix_pr1, tup_ints, is_false0, Bool.not_true, Bool.not_false, show isI (.int i) = true from rfl, show isB (.int i) = false from rfl, i2])
          by_cases h0 : i < 0
          · simp [h0, natB]
          · simp [h0, natB]
            omega
        · have en : natB x = false := by cases x <;> first | rfl | exact absurd ⟨_, rfl⟩ ci
          rw [en]
          cases hb : isI x
          · (try simp only [exs_nil, q_asg, kA_eq, kR_eq, q_drop, kD_eq, q_ret, q_if, kI_t, kI_f, q_set, kS_eq, q_pass, q_brk, q_cont, q_for, kF_eq, List.cons_append, List.nil_append, w_var, t_var, w_int, w_str, w_bl, w_non, w_gl, w_bin, w_neg, t_cmp, w_cmp, t_chain, w_chain, t_isC, w_isC, w_isi, t_isi, t_bop1, t_bop, w_bop1, w_bop, t_nt, w_nt, w_ite, t_ite, w_nil, w_cons, a_tup, w_fz, w_mu, a_disp, a_comp, w_ofSeq, w_call, w_prim, w_ix, w_sl, w_rev, w_pop, w_popAt, w_app, w_att, w_prop, w_mk, q_setAtt, e_nop, e_int, e_var, e_bin, i_seq, a_rng, rngA_int, a_rng2, rngB_int, a_zip, zipA_some, a_enum, enA_some, src_tsI, src_lsI, t_call, t_prim, tru_bl, opt_some, t_nop, List.getElem?_cons_zero, List.getElem?_cons_succ, setTg, setTgs, List.set_cons_zero, List.set_cons_succ, wp_ok, wipeE, len0, len1, len2, len3, len4, len5, len6, len7, len8, len9, len10, if_true, if_false, Bool.false_eq_true, eq_int, ne_int, gt_int, lt_int', le_int', ge_int', add_int, sub_int, abs_int, int_int, Option.map_some, src_lst, src_tup, ix_t0, ix_t1, ix_t2, ix_t3, ix_l0, ix_l1, ix_l2, is_non, and_true, true_and, w_minD, w_cut, ft0, ft1, ft2, ft3, ix_pr0, ix_pr1, tup_ints, is_false0, Bool.not_true, Bool.not_false])
            simp
          · have hb2 : isB x = true := by cases x <;> first | rfl | exact absurd ⟨_, rfl⟩ ci | cases hb
            (try simp only [exs_nil, q_asg, kA_eq, kR_eq, q_drop, kD_eq, q_ret, q_if, kI_t, kI_f, q_set, kS_eq, q_pass, q_brk, q_cont, q_for, kF_eq, List.cons_append, List.nil_append, w_var, t_var, w_int, w_str, w_bl, w_non, w_gl, w_bin, w_neg, t_cmp, w_cmp, t_chain, w_chain, t_isC, w_isC, w_isi, t_isi, t_bop1, t_bop, w_bop1, w_bop, t_nt, w_nt, w_ite, t_ite, w_nil, w_cons, a_tup, w_fz, w_mu, a_disp, a_comp, w_ofSeq, w_call, w_prim, w_ix, w_sl, w_rev, w_pop, w_popAt, w_app, w_att, w_prop, w_mk, q_setAtt, e_nop, e_int, e_var, e_bin, i_seq, a_rng, rngA_int, a_rng2, rngB_int, a_zip, zipA_some, a_enum, enA_some, src_tsI, src_lsI, t_call, t_prim, tru_bl, opt_some, t_nop, List.getElem?_cons_zero, List.getElem?_cons_succ, setTg, setTgs, List.set_cons_zero, List.set_cons_succ, wp_ok, wipeE, len0, len1, len2, len3, len4, len5, len6, len7, len8, len9, len10, if_true, if_false, Bool.false_eq_true, eq_int, ne_int, gt_int, lt_int', le_int', ge_int', add_int, sub_int, abs_int, int_int, Option.map_some, src_lst, src_tup, ix_t0, ix_t1, ix_t2, ix_t3, ix_l0, ix_l1, ix_l2, is_non, and_true, true_and, w_minD, w_cut, ft0, ft1, ft2, ft3, ix_pr0, ix_pr1, tup_ints, is_false0, Bool.not_true, Bool.not_false, i2, hb2])
            simp)]
      rw [← em]
      (try simp only [List.cons_append, List.nil_append, w_var, t_var, w_int, w_str, w_bl, w_non, w_gl, w_bin, w_neg, t_cmp, w_cmp, t_chain, w_chain, t_isC, w_isC, w_isi, t_isi, t_bop1, t_bop, w_bop1, w_bop, t_nt, w_nt, w_ite, t_ite, w_nil, w_cons, a_tup, w_fz, w_mu, a_disp, a_comp, w_ofSeq, w_call, w_prim, w_ix, w_sl, w_rev, w_pop, w_popAt, w_app, w_att, w_prop, w_mk, e_nop, e_int, e_var, e_bin, i_seq, a_rng, rngA_int, a_rng2, rngB_int, a_zip, zipA_some, a_enum, enA_some, src_tsI, src_lsI, t_call, t_prim, tru_bl, opt_some, t_nop, List.getElem?_cons_zero, List.getElem?_cons_succ, setTg, setTgs, List.set_cons_zero, List.set_cons_succ, wp_ok, wipeE, len0, len1, len2, len3, len4, len5, len6, len7, len8, len9, len10, if_true, if_false, Bool.false_eq_true, eq_int, ne_int, gt_int, lt_int', le_int', ge_int', add_int, sub_int, abs_int, int_int, Option.map_some, src_lst, src_tup, ix_t0, ix_t1, ix_t2, ix_t3, ix_l0, ix_l1, ix_l2, is_non, and_true, true_and, w_minD, w_cut, ft0, ft1, ft2, ft3, ix_pr0, ix_pr1, tup_ints, is_false0, Bool.not_true, Bool.not_false, len0, eq_ones, none_of])
      simp [wayL, e]
    · have e1 : (!((ts.length : Int) == (n : Int))) = true := by
        rw [Bool.not_eq_true', beq_eq_false_iff_ne]
        omega
      rw [e1, kI_t]
      simp only [List.cons_append, List.nil_append]
      rw [q_ret]
      (try simp only [List.cons_append, List.nil_append, w_var, t_var, w_int, w_str, w_bl, w_non, w_gl, w_bin, w_neg, t_cmp, w_cmp, t_chain, w_chain, t_isC, w_isC, w_isi, t_isi, t_bop1, t_bop, w_bop1, w_bop, t_nt, w_nt, w_ite, t_ite, w_nil, w_cons, a_tup, w_fz, w_mu, a_disp, a_comp, w_ofSeq, w_call, w_prim, w_ix, w_sl, w_rev, w_pop, w_popAt, w_app, w_att, w_prop, w_mk, e_nop, e_int, e_var, e_bin, i_seq, a_rng, rngA_int, a_rng2, rngB_int, a_zip, zipA_some, a_enum, enA_some, src_tsI, src_lsI, t_call, t_prim, tru_bl, opt_some, t_nop, List.getElem?_cons_zero, List.getElem?_cons_succ, setTg, setTgs, List.set_cons_zero, List.set_cons_succ, wp_ok, wipeE, len0, len1, len2, len3, len4, len5, len6, len7, len8, len9, len10, if_true, if_false, Bool.false_eq_true, eq_int, ne_int, gt_int, lt_int', le_int', ge_int', add_int, sub_int, abs_int, int_int, Option.map_some, src_lst, src_tup, ix_t0, ix_t1, ix_t2, ix_t3, ix_l0, ix_l1, ix_l2, is_non, and_true, true_and, w_minD, w_cut, ft0, ft1, ft2, ft3, ix_pr0, ix_pr1, tup_ints, is_false0, Bool.not_true, Bool.not_false])
      simp [wayL, e]
  · rw [not_tup c]
    (try simp only [List.cons_append, List.nil_append, w_var, t_var, w_int, w_str, w_bl, w_non, w_gl, w_bin, w_neg, t_cmp, w_cmp, t_chain, w_chain, t_isC, w_isC, w_isi, t_isi, t_bop1, t_bop, w_bop1, w_bop, t_nt, w_nt, w_ite, t_ite, w_nil, w_cons, a_tup, w_fz, w_mu, a_disp, a_comp, w_ofSeq, w_call, w_prim, w_ix, w_sl, w_rev, w_pop, w_popAt, w_app, w_att, w_prop, w_mk, e_nop, e_int, e_var, e_bin, i_seq, a_rng, rngA_int, a_rng2, rngB_int, a_zip, zipA_some, a_enum, enA_some, src_tsI, src_lsI, t_call, t_prim, tru_bl, opt_some, t_nop, List.getElem?_cons_zero, List.getElem?_cons_succ, setTg, setTgs, List.set_cons_zero, List.set_cons_succ, wp_ok, wipeE, len0, len1, len2, len3, len4, len5, len6, len7, len8, len9, len10, if_true, if_false, Bool.false_eq_true, eq_int, ne_int, gt_int, lt_int', le_int', ge_int', add_int, sub_int, abs_int, int_int, Option.map_some, src_lst, src_tup, ix_t0, ix_t1, ix_t2, ix_t3, ix_l0, ix_l1, ix_l2, is_non, and_true, true_and, w_minD, w_cut, ft0, ft1, ft2, ft3, ix_pr0, ix_pr1, tup_ints, is_false0, Bool.not_true, Bool.not_false])
    rw [kI_t]
    simp only [List.cons_append, List.nil_append]
    rw [q_ret]
    (try simp only [List.cons_append, List.nil_append, w_var, t_var, w_int, w_str, w_bl, w_non, w_gl, w_bin, w_neg, t_cmp, w_cmp, t_chain, w_chain, t_isC, w_isC, w_isi, t_isi, t_bop1, t_bop, w_bop1, w_bop, t_nt, w_nt, w_ite, t_ite, w_nil, w_cons, a_tup, w_fz, w_mu, a_disp, a_comp, w_ofSeq, w_call, w_prim, w_ix, w_sl, w_rev, w_pop, w_popAt, w_app, w_att, w_prop, w_mk, e_nop, e_int, e_var, e_bin, i_seq, a_rng, rngA_int, a_rng2, rngB_int, a_zip, zipA_some, a_enum, enA_some, src_tsI, src_lsI, t_call, t_prim, tru_bl, opt_some, t_nop, List.getElem?_cons_zero, List.getElem?_cons_succ, setTg, setTgs, List.set_cons_zero, List.set_cons_succ, wp_ok, wipeE, len0, len1, len2, len3, len4, len5, len6, len7, len8, len9, len10, if_true, if_false, Bool.false_eq_true, eq_int, ne_int, gt_int, lt_int', le_int', ge_int', add_int, sub_int, abs_int, int_int, Option.map_some, src_lst, src_tup, ix_t0, ix_t1, ix_t2, ix_t3, ix_l0, ix_l1, ix_l2, is_non, and_true, true_and, w_minD, w_cut, ft0, ft1, ft2, ft3, ix_pr0, ix_pr1, tup_ints, is_false0, Bool.not_true, Bool.not_false])
    cases t <;> first | rfl | exact absurd ⟨_, rfl⟩ c
end Mp
namespace Mp
/-! ### what is no market -/
/-- the first thing that is none, by its index -/
def firstB (p : Tv → Bool) (nm : PySem.Str) : Nat → List Tv → Tv
  | _, [] => .non
  | j, t :: r => if p t = true then firstB p nm (j + 1) r else .tup [.int (j : Int), .str nm]
def enumP : Nat → List Tv → List (Nat × Tv)
  | _, [] => []
  | j, t :: r => (j, t) :: enumP (j + 1) r
theorem enum_ts : ∀ {ts : List Tv} {j : Nat}, enumT (j : Int) ts = (enumP j ts).map fun p => Tv.tup [.int (p.1 : Int), p.2]
  | [], _ => rfl
  | t :: r, j => by
    simp only [enumT, enumP, List.map_cons]
    rw [show ((j : Int) + 1) = ((j + 1 : Nat) : Int) by omega, enum_ts]
theorem enumP_sub : ∀ {ts : List Tv} {j : Nat} {p : Nat × Tv}, p ∈ enumP j ts → p.2 ∈ ts
  | [], _, _, h => by cases h
  | t :: r, j, p, h => by
    rcases List.mem_cons.mp h with e | h
    · rw [e]; exact List.mem_cons_self
    · exact List.mem_cons_of_mem _ (enumP_sub h)
/-- a way by the law's look, its counts below 10 ** 60 -/
theorem wayL_of {n : Nat} {w : Tv} (h : wayL n w = true) : ∃ ns : List Int, w = tsI ns ∧ ns.length = n ∧ ∀ x ∈ ns, 0 ≤ x := by
  cases w with
  | tup ts =>
    unfold wayL at h
    rw [Bool.and_eq_true] at h
    have go : ∀ us : List Tv, us.all natB = true → ∃ ns : List Int, us = ns.map Tv.int ∧ ∀ x ∈ ns, 0 ≤ x := fun us => by
      induction us with
      | nil => exact fun _ => ⟨[], rfl, fun x hx => (List.not_mem_nil hx).elim⟩
      | cons u us ih =>
        intro z
        rw [List.all_cons, Bool.and_eq_true] at z
        obtain ⟨ns, e, hn⟩ := ih z.2
        have z1 := z.1
        cases u with
        | int i =>
          refine ⟨i :: ns, by rw [e]; rfl, fun x hx => ?_⟩
          rcases List.mem_cons.mp hx with q | q
          · rw [q]; exact of_decide_eq_true z1
          · exact hn x q
        | _ => cases z1
    obtain ⟨ns, e, hn⟩ := go ts h.2
    refine ⟨ns, by rw [e]; rfl, ?_, hn⟩
    have := of_decide_eq_true h.1
    rw [e, List.length_map] at this
    exact this
  | _ => cases h
theorem wayB_L {n : Nat} {w : Tv} (h : wayB n w = true) : wayL n w = true := by
  cases w with
  | tup ts =>
    unfold wayB rowB at h
    unfold wayL
    rw [Bool.and_eq_true] at h ⊢
    refine ⟨h.1, List.all_eq_true.mpr fun x hx => ?_⟩
    have z := List.all_eq_true.mp h.2 x hx
    cases x with
    | int i =>
      unfold inB at z
      rw [Bool.and_eq_true] at z
      exact z.1
    | _ => cases z
  | _ => cases h
theorem wayB_ints {n : Nat} {ns : List Int} (hl : ns.length = n) (h0 : ∀ x ∈ ns, 0 ≤ x) (hn : ns ≠ []) : wayB n (tsI ns) = !decide (1000000000000000000000000000000000000000000000000000000000000 ≤ mostOf ns) := by
  obtain ⟨m1, m2⟩ := most_spec hn
  unfold wayB rowB tsI
  rw [Bool.eq_iff_iff, Bool.and_eq_true, List.all_eq_true, Bool.not_eq_true', decide_eq_false_iff_not, decide_eq_true_iff, List.length_map]
  constructor
  · intro ⟨_, z⟩
    have q := z (.int (mostOf ns)) (List.mem_map.mpr ⟨_, m1, rfl⟩)
    unfold inB at q
    rw [Bool.and_eq_true] at q
    have := of_decide_eq_true q.2
    omega
  · intro z
    refine ⟨hl, fun t ht => ?_⟩
    obtain ⟨x, hx, rfl⟩ := List.mem_map.mp ht
    unfold inB
    rw [Bool.and_eq_true]
    have := m2 x hx
    exact ⟨decide_eq_true (h0 x hx), decide_eq_true (by omega)⟩
end Mp
namespace Mp
/-! ### values with a part otherwise -/
mutual
/-- ints and tuples -/
def Tv.pln : Nat → Tv → Bool
  | _, .int i => decide (i.natAbs < 2 ^ 1000)
  | k + 1, .tup ts => Tv.plns k ts
  | _, _ => false
def Tv.plns : Nat → List Tv → Bool
  | _, [] => true
  | k, t :: r => Tv.pln k t && Tv.plns k r
end
theorem plns_all : ∀ {ts : List Tv} {k : Nat}, Tv.plns k ts = true ↔ ∀ t ∈ ts, Tv.pln k t = true
  | [], _ => by simp [Tv.plns]
  | t :: r, k => by
    simp only [Tv.plns, Bool.and_eq_true, List.mem_cons, forall_eq_or_imp, plns_all (ts := r)]
theorem pln_cases {t : Tv} {k : Nat} (h : Tv.pln k t = true) : (∃ i, t = .int i ∧ Bd 1000 i) ∨ ∃ ts j, t = .tup ts ∧ k = j + 1 ∧ ∀ x ∈ ts, Tv.pln j x = true := by
  cases t with
  | int i =>
    refine .inl ⟨i, rfl, ?_⟩
    have h : decide (i.natAbs < 2 ^ 1000) = true := by cases k <;> simpa only [Tv.pln] using h
    exact (of_decide_eq_true h : i.natAbs < 2 ^ 1000)
  | tup ts =>
    cases k with
    | zero => simp [Tv.pln] at h
    | succ j =>
      simp only [Tv.pln] at h
      exact .inr ⟨ts, j, rfl, rfl, plns_all.mp h⟩
  | _ => cases k <;> simp [Tv.pln] at h
mutual
theorem pln_rOk : ∀ {t : Tv} {k l : Nat}, k ≤ l → Tv.pln k t = true → Tv.rOk l t = true
  | .int i, k, l, _, r => by
    rcases pln_cases r with ⟨_, e, h⟩ | ⟨_, _, e, _⟩
    · cases e
      have := h.log
      simp only [Tv.rOk]
      exact decide_eq_true (by omega)
    · cases e
  | .tup ts, k, l, h, r => by
    cases k with
    | zero => simp [Tv.pln] at r
    | succ k =>
      cases l with
      | zero => exact absurd h (by omega)
      | succ l =>
        simp only [Tv.pln] at r
        simp only [Tv.rOk]
        exact plns_rOk (by omega) r
  | .non, k, _, _, r => by cases k <;> simp [Tv.pln] at r
  | .bl _, k, _, _, r => by cases k <;> simp [Tv.pln] at r
  | .dct, k, _, _, r => by cases k <;> simp [Tv.pln] at r
  | .str _, k, _, _, r => by cases k <;> simp [Tv.pln] at r
  | .lst _, k, _, _, r => by cases k <;> simp [Tv.pln] at r
  | .scr _, k, _, _, r => by cases k <;> simp [Tv.pln] at r
  | .ins _ _, k, _, _, r => by cases k <;> simp [Tv.pln] at r
  | .cell _, k, _, _, r => by cases k <;> simp [Tv.pln] at r
theorem plns_rOk : ∀ {ts : List Tv} {k l : Nat}, k ≤ l → Tv.plns k ts = true → Tv.rOks l ts = true
  | [], _, _, _, _ => by simp [Tv.rOks]
  | t :: r, k, l, h, e => by
    simp only [Tv.plns, Bool.and_eq_true] at e
    simp only [Tv.rOks, Bool.and_eq_true]
    exact ⟨pln_rOk h e.1, plns_rOk h e.2⟩
end
mutual
theorem pln_dOk : ∀ {t : Tv} {k l : Nat}, k ≤ l → Tv.pln k t = true → Tv.dOk l t = true
  | .int i, k, l, _, r => by simp [Tv.dOk]
  | .tup ts, k, l, h, r => by
    cases k with
    | zero => simp [Tv.pln] at r
    | succ k =>
      cases l with
      | zero => exact absurd h (by omega)
      | succ l =>
        simp only [Tv.pln] at r
        simp only [Tv.dOk]
        exact plns_dOk (by omega) r
  | .non, k, _, _, r => by cases k <;> simp [Tv.pln] at r
  | .bl _, k, _, _, r => by cases k <;> simp [Tv.pln] at r
  | .dct, k, _, _, r => by cases k <;> simp [Tv.pln] at r
  | .str _, k, _, _, r => by cases k <;> simp [Tv.pln] at r
  | .lst _, k, _, _, r => by cases k <;> simp [Tv.pln] at r
  | .scr _, k, _, _, r => by cases k <;> simp [Tv.pln] at r
  | .ins _ _, k, _, _, r => by cases k <;> simp [Tv.pln] at r
  | .cell _, k, _, _, r => by cases k <;> simp [Tv.pln] at r
theorem plns_dOk : ∀ {ts : List Tv} {k l : Nat}, k ≤ l → Tv.plns k ts = true → Tv.dOks l ts = true
  | [], _, _, _, _ => by simp [Tv.dOks]
  | t :: r, k, l, h, e => by
    simp only [Tv.plns, Bool.and_eq_true] at e
    simp only [Tv.dOks, Bool.and_eq_true]
    exact ⟨pln_dOk h e.1, plns_dOk h e.2⟩
end
/-- a value that repr shows, of such a bulk -/
structure VOk (k B : Nat) (t : Tv) : Prop where
  r : Tv.rOk k t = true
  b : Tv.bulk t ≤ B
theorem bulks_app : ∀ {a b : List Tv}, Tv.bulks (a ++ b) = Tv.bulks a + Tv.bulks b
  | [], b => by simp [Tv.bulks]
  | x :: a, b => by
    simp only [List.cons_append, Tv.bulks, bulks_app (a := a)]
    omega
theorem bulks_rev : ∀ {a : List Tv}, Tv.bulks a.reverse = Tv.bulks a
  | [] => rfl
  | x :: a => by
    rw [List.reverse_cons, bulks_app, bulks_rev]
    simp only [Tv.bulks]
    omega
theorem bulks_len : ∀ {a : List Tv}, a.length ≤ Tv.bulks a
  | [] => by simp
  | x :: a => by
    have := bulks_len (a := a)
    simp only [Tv.bulks, List.length_cons]
    omega
theorem bulks_take {a : List Tv} {i : Nat} : Tv.bulks (a.take i) ≤ Tv.bulks a ∧ Tv.bulks (a.drop i) ≤ Tv.bulks a := by
  have z := bulks_app (a := a.take i) (b := a.drop i)
  rw [List.take_append_drop] at z
  omega
theorem cut_mem {ts : List Tv} {lo hi : Option Int} : (∀ t ∈ cutL ts lo hi, t ∈ ts) ∧ Tv.bulks (cutL ts lo hi) ≤ Tv.bulks ts ∧ (cutL ts lo hi).length ≤ ts.length := by
  unfold cutL
  refine ⟨fun t h => List.mem_of_mem_drop (List.mem_of_mem_take h), ?_, ?_⟩
  · exact Nat.le_trans (bulks_take (i := _)).1 (bulks_take (i := _)).2
  · rw [List.length_take, List.length_drop]
    omega
theorem vok_tup {k B : Nat} {ts : List Tv} (h : ∀ t ∈ ts, Tv.rOk k t = true) (hb : Tv.bulks ts ≤ B) : VOk (k + 1) B (.tup ts) := ⟨by simp only [Tv.rOk]; exact rOks_all.mpr h, hb⟩
theorem vok_lst {k B : Nat} {ts : List Tv} (h : ∀ t ∈ ts, Tv.rOk k t = true) (hb : Tv.bulks ts ≤ B) : VOk (k + 1) B (.lst ts) := ⟨by simp only [Tv.rOk]; exact rOks_all.mpr h, hb⟩
theorem vok_int {k B : Nat} {i : Int} (h : Bd 1800 i) : VOk k B (.int i) := ⟨by
  have := h.log
  simp only [Tv.rOk]
  exact decide_eq_true (by omega), Nat.zero_le _⟩
theorem VOk.mono {k l B C : Nat} {t : Tv} (h : VOk k B t) (h1 : k ≤ l) (h2 : B ≤ C) : VOk l C t := ⟨rOk_mono h1 h.r, Nat.le_trans h.b h2⟩
def xLawOdd : Df := ⟨2, 1,
  [
    .asg (.v 1) (.fz (.disp [.non, (.bl true), (.bl false), (.neg (.int 1)), (.int 0), (.int 1), (.int 5), (.int 21), (.bin .pow (.int 10) (.int 30)), (.str ""), (.str "1"), (.tup []), (.fz (.disp [])), .dct0, (.tup [(.int 1)]), (.fz (.disp [(.int 1), (.int 2)])), (.tup [(.tup [(.int 1)])]), (.tup [(.int 1), (.int 1)]), (.tup [(.int 0), (.int 1)])])),
    .ret (.call 8 [(.var 0), (.var 1)])]⟩
theorem pow_30 {S : Sto} : binV .pow S (.int 10) (.int 30) = some (.int 1000000000000000000000000000000) := rfl
theorem w_dct0 {cf : Nat → FM} {env : Env} {S : Sto} {Q : Tv → Sto → Prop} : ((ev cf .dct0).v env S).wp Q = Q .dct S := wp_ok
abbrev S152 (m : FM) : Prop := ∀ (S : Sto) (b : Nat), Dk b S → b + 1 ≤ 900000 → (m [.cell 1] S).wp fun t S' => VOk 2 2 t ∧ Dk (b + 1) S' ∧ Grow S S'
theorem ok152 {cf : Nat → FM} (d8 : S8 (cf 8)) : S152 (runD cf xLawOdd) := fun S b d hb => by
  refine run_draw rfl d (by omega) ?_
  show (exs cf Fu xLawOdd.body [some (.cell 1), none] S).wp _
  unfold xLawOdd
  rw [q_asg]
  (try simp only [List.cons_append, List.nil_append, w_var, t_var, w_int, w_str, w_bl, w_non, w_gl, w_bin, w_neg, t_cmp, w_cmp, t_chain, w_chain, t_isC, w_isC, w_isi, t_isi, t_bop1, t_bop, w_bop1, w_bop, t_nt, w_nt, w_ite, t_ite, w_nil, w_cons, a_tup, w_fz, w_mu, a_disp, a_comp, w_ofSeq, w_call, w_prim, w_ix, w_sl, w_rev, w_pop, w_popAt, w_app, w_att, w_prop, w_mk, e_nop, e_int, e_var, e_bin, i_seq, a_rng, rngA_int, a_rng2, rngB_int, a_zip, zipA_some, a_enum, enA_some, src_tsI, src_lsI, t_call, t_prim, tru_bl, opt_some, t_nop, List.getElem?_cons_zero, List.getElem?_cons_succ, setTg, setTgs, List.set_cons_zero, List.set_cons_succ, wp_ok, wipeE, len0, len1, len2, len3, len4, len5, len6, len7, len8, len9, len10, if_true, if_false, Bool.false_eq_true, eq_int, ne_int, gt_int, lt_int', le_int', ge_int', add_int, sub_int, abs_int, int_int, Option.map_some, src_lst, src_tup, ix_t0, ix_t1, ix_t2, ix_t3, ix_l0, ix_l1, ix_l2, is_non, and_true, true_and, w_minD, w_cut, ft0, ft1, ft2, ft3, ix_pr0, ix_pr1, tup_ints, is_false0, Bool.not_true, Bool.not_false, pow_30, w_dct0])
  refine ⟨by show 19 ≤ lim; unfold lim; omega, ?_⟩
  rw [kA_eq]
  (try simp only [List.cons_append, List.nil_append, w_var, t_var, w_int, w_str, w_bl, w_non, w_gl, w_bin, w_neg, t_cmp, w_cmp, t_chain, w_chain, t_isC, w_isC, w_isi, t_isi, t_bop1, t_bop, w_bop1, w_bop, t_nt, w_nt, w_ite, t_ite, w_nil, w_cons, a_tup, w_fz, w_mu, a_disp, a_comp, w_ofSeq, w_call, w_prim, w_ix, w_sl, w_rev, w_pop, w_popAt, w_app, w_att, w_prop, w_mk, e_nop, e_int, e_var, e_bin, i_seq, a_rng, rngA_int, a_rng2, rngB_int, a_zip, zipA_some, a_enum, enA_some, src_tsI, src_lsI, t_call, t_prim, tru_bl, opt_some, t_nop, List.getElem?_cons_zero, List.getElem?_cons_succ, setTg, setTgs, List.set_cons_zero, List.set_cons_succ, wp_ok, wipeE, len0, len1, len2, len3, len4, len5, len6, len7, len8, len9, len10, if_true, if_false, Bool.false_eq_true, eq_int, ne_int, gt_int, lt_int', le_int', ge_int', add_int, sub_int, abs_int, int_int, Option.map_some, src_lst, src_tup, ix_t0, ix_t1, ix_t2, ix_t3, ix_l0, ix_l1, ix_l2, is_non, and_true, true_and, w_minD, w_cut, ft0, ft1, ft2, ft3, ix_pr0, ix_pr1, tup_ints, is_false0, Bool.not_true, Bool.not_false])
  rw [q_ret]
  (try simp only [List.cons_append, List.nil_append, w_var, t_var, w_int, w_str, w_bl, w_non, w_gl, w_bin, w_neg, t_cmp, w_cmp, t_chain, w_chain, t_isC, w_isC, w_isi, t_isi, t_bop1, t_bop, w_bop1, w_bop, t_nt, w_nt, w_ite, t_ite, w_nil, w_cons, a_tup, w_fz, w_mu, a_disp, a_comp, w_ofSeq, w_call, w_prim, w_ix, w_sl, w_rev, w_pop, w_popAt, w_app, w_att, w_prop, w_mk, e_nop, e_int, e_var, e_bin, i_seq, a_rng, rngA_int, a_rng2, rngB_int, a_zip, zipA_some, a_enum, enA_some, src_tsI, src_lsI, t_call, t_prim, tru_bl, opt_some, t_nop, List.getElem?_cons_zero, List.getElem?_cons_succ, setTg, setTgs, List.set_cons_zero, List.set_cons_succ, wp_ok, wipeE, len0, len1, len2, len3, len4, len5, len6, len7, len8, len9, len10, if_true, if_false, Bool.false_eq_true, eq_int, ne_int, gt_int, lt_int', le_int', ge_int', add_int, sub_int, abs_int, int_int, Option.map_some, src_lst, src_tup, ix_t0, ix_t1, ix_t2, ix_t3, ix_l0, ix_l1, ix_l2, is_non, and_true, true_and, w_minD, w_cut, ft0, ft1, ft2, ft3, ix_pr0, ix_pr1, tup_ints, is_false0, Bool.not_true, Bool.not_false])
  refine d8.wp d (by omega) (by simp) (by simp) fun t S' ht d' g' => ?_
  refine ⟨?_, d', g'⟩
  have z : ∀ t ∈ [Tv.non, .bl true, .bl false, .int (-1), .int 0, .int 1, .int 5, .int 21, .int 1000000000000000000000000000000, .str "", .str "1", .tup [], .lst [], .dct, .tup [.int 1], .lst [.int 1, .int 2], .tup [.tup [.int 1]], .tup [.int 1, .int 1], .tup [.int 0, .int 1]], (Tv.rOk 2 t && decide (Tv.bulk t ≤ 2)) = true := by decide +kernel
  have q := z t ht
  rw [Bool.and_eq_true] at q
  exact ⟨q.1, of_decide_eq_true q.2⟩
def bentTail : List Sx := [
    .asg (.v 3) (.fz (.disp [(.call 152 [(.var 0)]), (.call 152 [(.var 0)])])),
    .ifS (.isi (.var 1) .tuple)
      [
        .asg (.v 3) (.bin .add (.var 3) (.fz (.disp [(.bin .add (.var 1) (.tup [(.call 152 [(.var 0)])])), (.sl (.var 1) (.int 1) .nop), (.bin .add (.var 1) (.var 1)), (.fz (.ofSeq (.var 1))), (.sl (.var 1) .nop (.neg (.int 1))), (.revT (.var 1))])))]
      [],
    .ifS (.bop true [(.isi (.var 1) .int), (.nt (.isi (.var 1) .bool))])
      [
        .asg (.v 3) (.bin .add (.var 3) (.fz (.disp [(.bin .add (.var 1) (.int 1)), (.bin .sub (.int 0) (.var 1)), (.bin .add (.var 1) (.int 20)), (.bin .sub (.int 21) (.var 1))])))]
      [],
    .ret (.call 8 [(.var 0), (.var 3)])]
def bentDf (r : Ex) : Df := ⟨5, 3,
    .ifS (.bop true [(.isi (.var 1) .tuple), (.cmp .ne (.var 1) (.tup [])), (.cmp .gt (.var 2) (.int 0)), (.cmp .gt (.call 7 [(.var 0), (.int 4)]) (.int 0))])
      [
        .asg (.v 4) (.call 7 [(.var 0), (.prim .len [(.var 1)])]),
        .ret (.bin .add (.bin .add (.sl (.var 1) .nop (.var 4)) (.tup [r])) (.sl (.var 1) (.bin .add (.var 4) (.int 1)) .nop))]
      [] :: bentTail⟩
def xLawBent0 : Df := bentDf .wall
def xLawBent1 : Df := bentDf (.call 153 [(.var 0), (.ix (.var 1) (.var 4)), (.bin .sub (.var 2) (.int 1))])
def xLawBent2 : Df := bentDf (.call 154 [(.var 0), (.ix (.var 1) (.var 4)), (.bin .sub (.var 2) (.int 1))])
end Mp
namespace Mp
/-! ### a value with one part otherwise -/
theorem e_negE {cf : Nat → FM} {env : Env} {S : Sto} {a : Ex} {QE : Option Int → Sto → Prop} : (evEnd (.neg a) ((ev cf (.neg a)).v env) S).wp QE = ((ev cf (.neg a)).v env S).wp fun x S => match x with
    | .int i => QE (some i) S
    | _ => False := by
  show (bnd _ _ S).wp QE = _
  rw [wp_bnd]
  congr 1
  funext x S
  cases x <;> first | exact wp_ok | exact wp_bad | exact wp_ret
theorem b_revT {cf : Nat → FM} {env : Env} {S : Sto} {Q : Tv → Sto → Prop} {a : Ex} : ((ev cf (.revT a)).v env S).wp Q = ((ev cf a).v env S).wp fun x S => match x with
    | .tup ts => Q (.tup ts.reverse) S
    | _ => False := by
  show (bnd _ _ S).wp Q = _
  rw [wp_bnd]
  congr 1
  funext x S
  cases x <;> first | exact wp_ok | exact wp_bad
theorem add_lsts {S : Sto} {a b : List Tv} (h : a.length + b.length ≤ 100000) : binV .add S (.lst a) (.lst b) = some (.lst (a ++ b)) := by
  show (if a.length + b.length ≤ lim then some (Tv.lst (a ++ b)) else none) = _
  rw [if_pos (by unfold lim; omega)]
theorem ne_tup {S : Sto} {ts : List Tv} (h : Tv.dOk 16 (.tup ts) = true) : cmpV .ne S (.tup ts) (.tup []) = some (!ts.isEmpty) := by
  refine ne_of_eq ?_
  show (if Tv.dOk 16 (.tup ts) = true ∧ Tv.dOk 16 (.tup []) = true then some (Tv.eqb (.tup ts) (.tup [])) else none) = _
  rw [if_pos ⟨h, rfl⟩]
  cases ts <;> rfl
/-- what is drawn at the end -/
abbrev POk (k B b : Nat) (S : Sto) : Po := { nx := fun _ _ => False, rt := fun t S' => VOk k B t ∧ Dk b S' ∧ Grow S S' }
theorem bent_tail {cf : Nat → FM} (d8 : S8 (cf 8)) (d152 : S152 (cf 152)) {v : Tv} {k d b c : Nat} {S0 S : Sto} {j2 j3 j4 : Option Tv} (hv : Tv.pln d v = true) (hB : Tv.bulk v ≤ 2000) (dk : Dk b S) (hb : b + 4 ≤ c) (hc : c ≤ 900000) (g0 : Grow S0 S) :
    (exs cf Fu bentTail [some (.cell 1), some v, j2, j3, j4] S).wp (POk (d + 3) (2 * Tv.bulk v + 20) c S0) := by
  unfold bentTail
  have ro : Tv.rOk d v = true := pln_rOk (Nat.le_refl _) hv
  have i1 : ∀ S, isiV .tuple S v = some (isT v) := fun S => isi_T ro
  have i2 : ∀ S, isiV .int S v = some (isI v) := fun S => isi_I ro
  have i3 : ∀ S, isiV .bool S v = some (isB v) := fun S => isi_B ro
  rw [q_asg]
  (try simp only [List.cons_append, List.nil_append, w_var, t_var, w_int, w_str, w_bl, w_non, w_gl, w_bin, w_neg, t_cmp, w_cmp, t_chain, w_chain, t_isC, w_isC, w_isi, t_isi, t_bop1, t_bop, w_bop1, w_bop, t_nt, w_nt, w_ite, t_ite, w_nil, w_cons, a_tup, w_fz, w_mu, a_disp, a_comp, w_ofSeq, w_call, w_prim, w_ix, w_sl, w_rev, w_pop, w_popAt, w_app, w_att, w_prop, w_mk, e_nop, e_int, e_var, e_bin, i_seq, a_rng, rngA_int, a_rng2, rngB_int, a_zip, zipA_some, a_enum, enA_some, src_tsI, src_lsI, t_call, t_prim, tru_bl, opt_some, t_nop, List.getElem?_cons_zero, List.getElem?_cons_succ, setTg, setTgs, List.set_cons_zero, List.set_cons_succ, wp_ok, wipeE, len0, len1, len2, len3, len4, len5, len6, len7, len8, len9, len10, if_true, if_false, Bool.false_eq_true, eq_int, ne_int, gt_int, lt_int', le_int', ge_int', add_int, sub_int, abs_int, int_int, Option.map_some, src_lst, src_tup, ix_t0, ix_t1, ix_t2, ix_t3, ix_l0, ix_l1, ix_l2, is_non, and_true, true_and, w_minD, w_cut, ft0, ft1, ft2, ft3, ix_pr0, ix_pr1, tup_ints, is_false0, Bool.not_true, Bool.not_false])
  refine wp_mono (d152 S b dk (by omega)) ?_
  rintro o1 S1 ⟨v1, k1, g1⟩
  (try simp only [List.cons_append, List.nil_append, w_var, t_var, w_int, w_str, w_bl, w_non, w_gl, w_bin, w_neg, t_cmp, w_cmp, t_chain, w_chain, t_isC, w_isC, w_isi, t_isi, t_bop1, t_bop, w_bop1, w_bop, t_nt, w_nt, w_ite, t_ite, w_nil, w_cons, a_tup, w_fz, w_mu, a_disp, a_comp, w_ofSeq, w_call, w_prim, w_ix, w_sl, w_rev, w_pop, w_popAt, w_app, w_att, w_prop, w_mk, e_nop, e_int, e_var, e_bin, i_seq, a_rng, rngA_int, a_rng2, rngB_int, a_zip, zipA_some, a_enum, enA_some, src_tsI, src_lsI, t_call, t_prim, tru_bl, opt_some, t_nop, List.getElem?_cons_zero, List.getElem?_cons_succ, setTg, setTgs, List.set_cons_zero, List.set_cons_succ, wp_ok, wipeE, len0, len1, len2, len3, len4, len5, len6, len7, len8, len9, len10, if_true, if_false, Bool.false_eq_true, eq_int, ne_int, gt_int, lt_int', le_int', ge_int', add_int, sub_int, abs_int, int_int, Option.map_some, src_lst, src_tup, ix_t0, ix_t1, ix_t2, ix_t3, ix_l0, ix_l1, ix_l2, is_non, and_true, true_and, w_minD, w_cut, ft0, ft1, ft2, ft3, ix_pr0, ix_pr1, tup_ints, is_false0, Bool.not_true, Bool.not_false])
  refine wp_mono (d152 S1 _ k1 (by omega)) ?_
  rintro o2 S2 ⟨v2, k2, g2⟩
  (try simp only [List.cons_append, List.nil_append, w_var, t_var, w_int, w_str, w_bl, w_non, w_gl, w_bin, w_neg, t_cmp, w_cmp, t_chain, w_chain, t_isC, w_isC, w_isi, t_isi, t_bop1, t_bop, w_bop1, w_bop, t_nt, w_nt, w_ite, t_ite, w_nil, w_cons, a_tup, w_fz, w_mu, a_disp, a_comp, w_ofSeq, w_call, w_prim, w_ix, w_sl, w_rev, w_pop, w_popAt, w_app, w_att, w_prop, w_mk, e_nop, e_int, e_var, e_bin, i_seq, a_rng, rngA_int, a_rng2, rngB_int, a_zip, zipA_some, a_enum, enA_some, src_tsI, src_lsI, t_call, t_prim, tru_bl, opt_some, t_nop, List.getElem?_cons_zero, List.getElem?_cons_succ, setTg, setTgs, List.set_cons_zero, List.set_cons_succ, wp_ok, wipeE, len0, len1, len2, len3, len4, len5, len6, len7, len8, len9, len10, if_true, if_false, Bool.false_eq_true, eq_int, ne_int, gt_int, lt_int', le_int', ge_int', add_int, sub_int, abs_int, int_int, Option.map_some, src_lst, src_tup, ix_t0, ix_t1, ix_t2, ix_t3, ix_l0, ix_l1, ix_l2, is_non, and_true, true_and, w_minD, w_cut, ft0, ft1, ft2, ft3, ix_pr0, ix_pr1, tup_ints, is_false0, Bool.not_true, Bool.not_false])
  rw [kA_eq]
  (try simp only [List.cons_append, List.nil_append, w_var, t_var, w_int, w_str, w_bl, w_non, w_gl, w_bin, w_neg, t_cmp, w_cmp, t_chain, w_chain, t_isC, w_isC, w_isi, t_isi, t_bop1, t_bop, w_bop1, w_bop, t_nt, w_nt, w_ite, t_ite, w_nil, w_cons, a_tup, w_fz, w_mu, a_disp, a_comp, w_ofSeq, w_call, w_prim, w_ix, w_sl, w_rev, w_pop, w_popAt, w_app, w_att, w_prop, w_mk, e_nop, e_int, e_var, e_bin, i_seq, a_rng, rngA_int, a_rng2, rngB_int, a_zip, zipA_some, a_enum, enA_some, src_tsI, src_lsI, t_call, t_prim, tru_bl, opt_some, t_nop, List.getElem?_cons_zero, List.getElem?_cons_succ, setTg, setTgs, List.set_cons_zero, List.set_cons_succ, wp_ok, wipeE, len0, len1, len2, len3, len4, len5, len6, len7, len8, len9, len10, if_true, if_false, Bool.false_eq_true, eq_int, ne_int, gt_int, lt_int', le_int', ge_int', add_int, sub_int, abs_int, int_int, Option.map_some, src_lst, src_tup, ix_t0, ix_t1, ix_t2, ix_t3, ix_l0, ix_l1, ix_l2, is_non, and_true, true_and, w_minD, w_cut, ft0, ft1, ft2, ft3, ix_pr0, ix_pr1, tup_ints, is_false0, Bool.not_true, Bool.not_false])
  have w1 : VOk (d + 3) (2 * Tv.bulk v + 20) o1 := v1.mono (by omega) (by omega)
  have w2 : VOk (d + 3) (2 * Tv.bulk v + 20) o2 := v2.mono (by omega) (by omega)
  rcases pln_cases hv with ⟨i, rfl, hi⟩ | ⟨ts, j, rfl, rfl, ht⟩
  · rw [q_if]
    (try simp only [List.cons_append, List.nil_append, w_var, t_var, w_int, w_str, w_bl, w_non, w_gl, w_bin, w_neg, t_cmp, w_cmp, t_chain, w_chain, t_isC, w_isC, w_isi, t_isi, t_bop1, t_bop, w_bop1, w_bop, t_nt, w_nt, w_ite, t_ite, w_nil, w_cons, a_tup, w_fz, w_mu, a_disp, a_comp, w_ofSeq, w_call, w_prim, w_ix, w_sl, w_rev, w_pop, w_popAt, w_app, w_att, w_prop, w_mk, e_nop, e_int, e_var, e_bin, i_seq, a_rng, rngA_int, a_rng2, rngB_int, a_zip, zipA_some, a_enum, enA_some, src_tsI, src_lsI, t_call, t_prim, tru_bl, opt_some, t_nop, List.getElem?_cons_zero, List.getElem?_cons_succ, setTg, setTgs, List.set_cons_zero, List.set_cons_succ, wp_ok, wipeE, len0, len1, len2, len3, len4, len5, len6, len7, len8, len9, len10, if_true, if_false, Bool.false_eq_true, eq_int, ne_int, gt_int, lt_int', le_int', ge_int', add_int, sub_int, abs_int, int_int, Option.map_some, src_lst, src_tup, ix_t0, ix_t1, ix_t2, ix_t3, ix_l0, ix_l1, ix_l2, is_non, and_true, true_and, w_minD, w_cut, ft0, ft1, ft2, ft3, ix_pr0, ix_pr1, tup_ints, is_false0, Bool.not_true, Bool.not_false, i1, show isT (.int i) = false from rfl])
    rw [kI_f, List.nil_append, q_if]
    (try simp only [List.cons_append, List.nil_append, w_var, t_var, w_int, w_str, w_bl, w_non, w_gl, w_bin, w_neg, t_cmp, w_cmp, t_chain, w_chain, t_isC, w_isC, w_isi, t_isi, t_bop1, t_bop, w_bop1, w_bop, t_nt, w_nt, w_ite, t_ite, w_nil, w_cons, a_tup, w_fz, w_mu, a_disp, a_comp, w_ofSeq, w_call, w_prim, w_ix, w_sl, w_rev, w_pop, w_popAt, w_app, w_att, w_prop, w_mk, e_nop, e_int, e_var, e_bin, i_seq, a_rng, rngA_int, a_rng2, rngB_int, a_zip, zipA_some, a_enum, enA_some, src_tsI, src_lsI, t_call, t_prim, tru_bl, opt_some, t_nop, List.getElem?_cons_zero, List.getElem?_cons_succ, setTg, setTgs, List.set_cons_zero, List.set_cons_succ, wp_ok, wipeE, len0, len1, len2, len3, len4, len5, len6, len7, len8, len9, len10, if_true, if_false, Bool.false_eq_true, eq_int, ne_int, gt_int, lt_int', le_int', ge_int', add_int, sub_int, abs_int, int_int, Option.map_some, src_lst, src_tup, ix_t0, ix_t1, ix_t2, ix_t3, ix_l0, ix_l1, ix_l2, is_non, and_true, true_and, w_minD, w_cut, ft0, ft1, ft2, ft3, ix_pr0, ix_pr1, tup_ints, is_false0, Bool.not_true, Bool.not_false, i2, i3, show isI (.int i) = true from rfl, show isB (.int i) = false from rfl, Bool.not_false])
    rw [kI_t]
    simp only [List.cons_append, List.nil_append]
    have al : ∀ (S : Sto) (l : List Tv), l.length ≤ 10 → binV .add S (.lst [o1, o2]) (.lst l) = some (.lst ([o1, o2] ++ l)) := fun S l h => add_lsts (by simp; omega)
    rw [q_asg]
    (try simp only [List.cons_append, List.nil_append, w_var, t_var, w_int, w_str, w_bl, w_non, w_gl, w_bin, w_neg, t_cmp, w_cmp, t_chain, w_chain, t_isC, w_isC, w_isi, t_isi, t_bop1, t_bop, w_bop1, w_bop, t_nt, w_nt, w_ite, t_ite, w_nil, w_cons, a_tup, w_fz, w_mu, a_disp, a_comp, w_ofSeq, w_call, w_prim, w_ix, w_sl, w_rev, w_pop, w_popAt, w_app, w_att, w_prop, w_mk, e_nop, e_int, e_var, e_bin, i_seq, a_rng, rngA_int, a_rng2, rngB_int, a_zip, zipA_some, a_enum, enA_some, src_tsI, src_lsI, t_call, t_prim, tru_bl, opt_some, t_nop, List.getElem?_cons_zero, List.getElem?_cons_succ, setTg, setTgs, List.set_cons_zero, List.set_cons_succ, wp_ok, wipeE, len0, len1, len2, len3, len4, len5, len6, len7, len8, len9, len10, if_true, if_false, Bool.false_eq_true, eq_int, ne_int, gt_int, lt_int', le_int', ge_int', add_int, sub_int, abs_int, int_int, Option.map_some, src_lst, src_tup, ix_t0, ix_t1, ix_t2, ix_t3, ix_l0, ix_l1, ix_l2, is_non, and_true, true_and, w_minD, w_cut, ft0, ft1, ft2, ft3, ix_pr0, ix_pr1, tup_ints, is_false0, Bool.not_true, Bool.not_false])
    rw [al _ _ (by simp)]
    (try simp only [List.cons_append, List.nil_append, w_var, t_var, w_int, w_str, w_bl, w_non, w_gl, w_bin, w_neg, t_cmp, w_cmp, t_chain, w_chain, t_isC, w_isC, w_isi, t_isi, t_bop1, t_bop, w_bop1, w_bop, t_nt, w_nt, w_ite, t_ite, w_nil, w_cons, a_tup, w_fz, w_mu, a_disp, a_comp, w_ofSeq, w_call, w_prim, w_ix, w_sl, w_rev, w_pop, w_popAt, w_app, w_att, w_prop, w_mk, e_nop, e_int, e_var, e_bin, i_seq, a_rng, rngA_int, a_rng2, rngB_int, a_zip, zipA_some, a_enum, enA_some, src_tsI, src_lsI, t_call, t_prim, tru_bl, opt_some, t_nop, List.getElem?_cons_zero, List.getElem?_cons_succ, setTg, setTgs, List.set_cons_zero, List.set_cons_succ, wp_ok, wipeE, len0, len1, len2, len3, len4, len5, len6, len7, len8, len9, len10, if_true, if_false, Bool.false_eq_true, eq_int, ne_int, gt_int, lt_int', le_int', ge_int', add_int, sub_int, abs_int, int_int, Option.map_some, src_lst, src_tup, ix_t0, ix_t1, ix_t2, ix_t3, ix_l0, ix_l1, ix_l2, is_non, and_true, true_and, w_minD, w_cut, ft0, ft1, ft2, ft3, ix_pr0, ix_pr1, tup_ints, is_false0, Bool.not_true, Bool.not_false])
    rw [kA_eq]
    (try simp only [List.cons_append, List.nil_append, w_var, t_var, w_int, w_str, w_bl, w_non, w_gl, w_bin, w_neg, t_cmp, w_cmp, t_chain, w_chain, t_isC, w_isC, w_isi, t_isi, t_bop1, t_bop, w_bop1, w_bop, t_nt, w_nt, w_ite, t_ite, w_nil, w_cons, a_tup, w_fz, w_mu, a_disp, a_comp, w_ofSeq, w_call, w_prim, w_ix, w_sl, w_rev, w_pop, w_popAt, w_app, w_att, w_prop, w_mk, e_nop, e_int, e_var, e_bin, i_seq, a_rng, rngA_int, a_rng2, rngB_int, a_zip, zipA_some, a_enum, enA_some, src_tsI, src_lsI, t_call, t_prim, tru_bl, opt_some, t_nop, List.getElem?_cons_zero, List.getElem?_cons_succ, setTg, setTgs, List.set_cons_zero, List.set_cons_succ, wp_ok, wipeE, len0, len1, len2, len3, len4, len5, len6, len7, len8, len9, len10, if_true, if_false, Bool.false_eq_true, eq_int, ne_int, gt_int, lt_int', le_int', ge_int', add_int, sub_int, abs_int, int_int, Option.map_some, src_lst, src_tup, ix_t0, ix_t1, ix_t2, ix_t3, ix_l0, ix_l1, ix_l2, is_non, and_true, true_and, w_minD, w_cut, ft0, ft1, ft2, ft3, ix_pr0, ix_pr1, tup_ints, is_false0, Bool.not_true, Bool.not_false])
    rw [q_ret]
    (try simp only [List.cons_append, List.nil_append, w_var, t_var, w_int, w_str, w_bl, w_non, w_gl, w_bin, w_neg, t_cmp, w_cmp, t_chain, w_chain, t_isC, w_isC, w_isi, t_isi, t_bop1, t_bop, w_bop1, w_bop, t_nt, w_nt, w_ite, t_ite, w_nil, w_cons, a_tup, w_fz, w_mu, a_disp, a_comp, w_ofSeq, w_call, w_prim, w_ix, w_sl, w_rev, w_pop, w_popAt, w_app, w_att, w_prop, w_mk, e_nop, e_int, e_var, e_bin, i_seq, a_rng, rngA_int, a_rng2, rngB_int, a_zip, zipA_some, a_enum, enA_some, src_tsI, src_lsI, t_call, t_prim, tru_bl, opt_some, t_nop, List.getElem?_cons_zero, List.getElem?_cons_succ, setTg, setTgs, List.set_cons_zero, List.set_cons_succ, wp_ok, wipeE, len0, len1, len2, len3, len4, len5, len6, len7, len8, len9, len10, if_true, if_false, Bool.false_eq_true, eq_int, ne_int, gt_int, lt_int', le_int', ge_int', add_int, sub_int, abs_int, int_int, Option.map_some, src_lst, src_tup, ix_t0, ix_t1, ix_t2, ix_t3, ix_l0, ix_l1, ix_l2, is_non, and_true, true_and, w_minD, w_cut, ft0, ft1, ft2, ft3, ix_pr0, ix_pr1, tup_ints, is_false0, Bool.not_true, Bool.not_false])
    refine d8.wp k2 (by omega) (by simp) (by simp) fun t S3 m d3 g3 => ⟨?_, d3.mono (by omega), g0.trans (g1.trans (g2.trans g3))⟩
    have b5 : ∀ x : Int, x.natAbs ≤ 21 → Bd 1000 x := fun x h => (Bd.of (k := 5) (m := 21) h (by decide)).mono (by decide)
    have a1 : ∀ x : Int, x.natAbs ≤ 21 → Bd 1800 (i + x) := fun x h => (hi.add (b5 x h)).mono (by omega)
    have a2 : ∀ x : Int, x.natAbs ≤ 21 → Bd 1800 (x - i) := fun x h => by
      have hn : Bd 1000 (-i) := by unfold Bd at *; omega
      have z := ((b5 x h).add hn).mono (by omega : 1000 + 1 ≤ 1800)
      rwa [← Int.sub_eq_add_neg] at z
    simp only [List.cons_append, List.nil_append, List.mem_cons, List.not_mem_nil, or_false] at m
    rcases m with rfl | rfl | rfl | rfl | rfl | rfl
    · exact w1
    · exact w2
    · exact vok_int (a1 1 (by decide))
    · exact vok_int (a2 0 (by decide))
    · exact vok_int (a1 20 (by decide))
    · exact vok_int (a2 21 (by decide))
  · have hB' : Tv.bulks ts ≤ 2000 := hB
    have tl : ts.length ≤ 2000 := Nat.le_trans bulks_len hB'
    have tr : ∀ t ∈ ts, Tv.rOk (j + 3) t = true := fun t h => pln_rOk (by omega) (ht t h)
    rw [q_if]
    (try simp only [List.cons_append, List.nil_append, w_var, t_var, w_int, w_str, w_bl, w_non, w_gl, w_bin, w_neg, t_cmp, w_cmp, t_chain, w_chain, t_isC, w_isC, w_isi, t_isi, t_bop1, t_bop, w_bop1, w_bop, t_nt, w_nt, w_ite, t_ite, w_nil, w_cons, a_tup, w_fz, w_mu, a_disp, a_comp, w_ofSeq, w_call, w_prim, w_ix, w_sl, w_rev, w_pop, w_popAt, w_app, w_att, w_prop, w_mk, e_nop, e_int, e_var, e_bin, i_seq, a_rng, rngA_int, a_rng2, rngB_int, a_zip, zipA_some, a_enum, enA_some, src_tsI, src_lsI, t_call, t_prim, tru_bl, opt_some, t_nop, List.getElem?_cons_zero, List.getElem?_cons_succ, setTg, setTgs, List.set_cons_zero, List.set_cons_succ, wp_ok, wipeE, len0, len1, len2, len3, len4, len5, len6, len7, len8, len9, len10, if_true, if_false, Bool.false_eq_true, eq_int, ne_int, gt_int, lt_int', le_int', ge_int', add_int, sub_int, abs_int, int_int, Option.map_some, src_lst, src_tup, ix_t0, ix_t1, ix_t2, ix_t3, ix_l0, ix_l1, ix_l2, is_non, and_true, true_and, w_minD, w_cut, ft0, ft1, ft2, ft3, ix_pr0, ix_pr1, tup_ints, is_false0, Bool.not_true, Bool.not_false, i1, show isT (.tup ts) = true from rfl])
    rw [kI_t]
    simp only [List.cons_append, List.nil_append]
    rw [q_asg]
    (try simp only [List.cons_append, List.nil_append, w_var, t_var, w_int, w_str, w_bl, w_non, w_gl, w_bin, w_neg, t_cmp, w_cmp, t_chain, w_chain, t_isC, w_isC, w_isi, t_isi, t_bop1, t_bop, w_bop1, w_bop, t_nt, w_nt, w_ite, t_ite, w_nil, w_cons, a_tup, w_fz, w_mu, a_disp, a_comp, w_ofSeq, w_call, w_prim, w_ix, w_sl, w_rev, w_pop, w_popAt, w_app, w_att, w_prop, w_mk, e_nop, e_int, e_var, e_bin, i_seq, a_rng, rngA_int, a_rng2, rngB_int, a_zip, zipA_some, a_enum, enA_some, src_tsI, src_lsI, t_call, t_prim, tru_bl, opt_some, t_nop, List.getElem?_cons_zero, List.getElem?_cons_succ, setTg, setTgs, List.set_cons_zero, List.set_cons_succ, wp_ok, wipeE, len0, len1, len2, len3, len4, len5, len6, len7, len8, len9, len10, if_true, if_false, Bool.false_eq_true, eq_int, ne_int, gt_int, lt_int', le_int', ge_int', add_int, sub_int, abs_int, int_int, Option.map_some, src_lst, src_tup, ix_t0, ix_t1, ix_t2, ix_t3, ix_l0, ix_l1, ix_l2, is_non, and_true, true_and, w_minD, w_cut, ft0, ft1, ft2, ft3, ix_pr0, ix_pr1, tup_ints, is_false0, Bool.not_true, Bool.not_false])
    refine wp_mono (d152 S2 _ k2 (by omega)) ?_
    rintro o3 S3 ⟨v3, k3, g3⟩
    have ad : ∀ (S : Sto) (l : List Tv), l.length ≤ 10000 → binV .add S (.tup ts) (.tup l) = some (.tup (ts ++ l)) := fun S l h => add_tups (by omega)
    have al : ∀ (S : Sto) (l : List Tv), l.length ≤ 10 → binV .add S (.lst [o1, o2]) (.lst l) = some (.lst ([o1, o2] ++ l)) := fun S l h => add_lsts (by simp; omega)
    have s1 : ∀ S lo hi, slV S (.tup ts) lo hi = some (.tup (cutL ts lo hi)) := fun S lo hi => rfl
    have sq : ∀ S, seqOf S (.tup ts) = some ts := fun S => rfl
    have ad1 : ∀ S, binV .add S (.tup ts) (.tup [o3]) = some (.tup (ts ++ [o3])) := fun S => ad S [o3] (by simp)
    have ad2 : ∀ S, binV .add S (.tup ts) (.tup ts) = some (.tup (ts ++ ts)) := fun S => ad S ts (by omega)
    (try simp only [List.cons_append, List.nil_append, w_var, t_var, w_int, w_str, w_bl, w_non, w_gl, w_bin, w_neg, t_cmp, w_cmp, t_chain, w_chain, t_isC, w_isC, w_isi, t_isi, t_bop1, t_bop, w_bop1, w_bop, t_nt, w_nt, w_ite, t_ite, w_nil, w_cons, a_tup, w_fz, w_mu, a_disp, a_comp, w_ofSeq, w_call, w_prim, w_ix, w_sl, w_rev, w_pop, w_popAt, w_app, w_att, w_prop, w_mk, e_nop, e_int, e_var, e_bin, i_seq, a_rng, rngA_int, a_rng2, rngB_int, a_zip, zipA_some, a_enum, enA_some, src_tsI, src_lsI, t_call, t_prim, tru_bl, opt_some, t_nop, List.getElem?_cons_zero, List.getElem?_cons_succ, setTg, setTgs, List.set_cons_zero, List.set_cons_succ, wp_ok, wipeE, len0, len1, len2, len3, len4, len5, len6, len7, len8, len9, len10, if_true, if_false, Bool.false_eq_true, eq_int, ne_int, gt_int, lt_int', le_int', ge_int', add_int, sub_int, abs_int, int_int, Option.map_some, src_lst, src_tup, ix_t0, ix_t1, ix_t2, ix_t3, ix_l0, ix_l1, ix_l2, is_non, and_true, true_and, w_minD, w_cut, ft0, ft1, ft2, ft3, ix_pr0, ix_pr1, tup_ints, is_false0, Bool.not_true, Bool.not_false, ad1, ad2, s1, sq, e_negE, b_revT])
    rw [al _ _ (by simp)]
    (try simp only [List.cons_append, List.nil_append, w_var, t_var, w_int, w_str, w_bl, w_non, w_gl, w_bin, w_neg, t_cmp, w_cmp, t_chain, w_chain, t_isC, w_isC, w_isi, t_isi, t_bop1, t_bop, w_bop1, w_bop, t_nt, w_nt, w_ite, t_ite, w_nil, w_cons, a_tup, w_fz, w_mu, a_disp, a_comp, w_ofSeq, w_call, w_prim, w_ix, w_sl, w_rev, w_pop, w_popAt, w_app, w_att, w_prop, w_mk, e_nop, e_int, e_var, e_bin, i_seq, a_rng, rngA_int, a_rng2, rngB_int, a_zip, zipA_some, a_enum, enA_some, src_tsI, src_lsI, t_call, t_prim, tru_bl, opt_some, t_nop, List.getElem?_cons_zero, List.getElem?_cons_succ, setTg, setTgs, List.set_cons_zero, List.set_cons_succ, wp_ok, wipeE, len0, len1, len2, len3, len4, len5, len6, len7, len8, len9, len10, if_true, if_false, Bool.false_eq_true, eq_int, ne_int, gt_int, lt_int', le_int', ge_int', add_int, sub_int, abs_int, int_int, Option.map_some, src_lst, src_tup, ix_t0, ix_t1, ix_t2, ix_t3, ix_l0, ix_l1, ix_l2, is_non, and_true, true_and, w_minD, w_cut, ft0, ft1, ft2, ft3, ix_pr0, ix_pr1, tup_ints, is_false0, Bool.not_true, Bool.not_false])
    rw [kA_eq]
    (try simp only [List.cons_append, List.nil_append, w_var, t_var, w_int, w_str, w_bl, w_non, w_gl, w_bin, w_neg, t_cmp, w_cmp, t_chain, w_chain, t_isC, w_isC, w_isi, t_isi, t_bop1, t_bop, w_bop1, w_bop, t_nt, w_nt, w_ite, t_ite, w_nil, w_cons, a_tup, w_fz, w_mu, a_disp, a_comp, w_ofSeq, w_call, w_prim, w_ix, w_sl, w_rev, w_pop, w_popAt, w_app, w_att, w_prop, w_mk, e_nop, e_int, e_var, e_bin, i_seq, a_rng, rngA_int, a_rng2, rngB_int, a_zip, zipA_some, a_enum, enA_some, src_tsI, src_lsI, t_call, t_prim, tru_bl, opt_some, t_nop, List.getElem?_cons_zero, List.getElem?_cons_succ, setTg, setTgs, List.set_cons_zero, List.set_cons_succ, wp_ok, wipeE, len0, len1, len2, len3, len4, len5, len6, len7, len8, len9, len10, if_true, if_false, Bool.false_eq_true, eq_int, ne_int, gt_int, lt_int', le_int', ge_int', add_int, sub_int, abs_int, int_int, Option.map_some, src_lst, src_tup, ix_t0, ix_t1, ix_t2, ix_t3, ix_l0, ix_l1, ix_l2, is_non, and_true, true_and, w_minD, w_cut, ft0, ft1, ft2, ft3, ix_pr0, ix_pr1, tup_ints, is_false0, Bool.not_true, Bool.not_false])
    rw [q_if]
    (try simp only [List.cons_append, List.nil_append, w_var, t_var, w_int, w_str, w_bl, w_non, w_gl, w_bin, w_neg, t_cmp, w_cmp, t_chain, w_chain, t_isC, w_isC, w_isi, t_isi, t_bop1, t_bop, w_bop1, w_bop, t_nt, w_nt, w_ite, t_ite, w_nil, w_cons, a_tup, w_fz, w_mu, a_disp, a_comp, w_ofSeq, w_call, w_prim, w_ix, w_sl, w_rev, w_pop, w_popAt, w_app, w_att, w_prop, w_mk, e_nop, e_int, e_var, e_bin, i_seq, a_rng, rngA_int, a_rng2, rngB_int, a_zip, zipA_some, a_enum, enA_some, src_tsI, src_lsI, t_call, t_prim, tru_bl, opt_some, t_nop, List.getElem?_cons_zero, List.getElem?_cons_succ, setTg, setTgs, List.set_cons_zero, List.set_cons_succ, wp_ok, wipeE, len0, len1, len2, len3, len4, len5, len6, len7, len8, len9, len10, if_true, if_false, Bool.false_eq_true, eq_int, ne_int, gt_int, lt_int', le_int', ge_int', add_int, sub_int, abs_int, int_int, Option.map_some, src_lst, src_tup, ix_t0, ix_t1, ix_t2, ix_t3, ix_l0, ix_l1, ix_l2, is_non, and_true, true_and, w_minD, w_cut, ft0, ft1, ft2, ft3, ix_pr0, ix_pr1, tup_ints, is_false0, Bool.not_true, Bool.not_false, i2, show isI (.tup ts) = false from rfl])
    rw [kI_f, List.nil_append, q_ret]
    (try simp only [List.cons_append, List.nil_append, w_var, t_var, w_int, w_str, w_bl, w_non, w_gl, w_bin, w_neg, t_cmp, w_cmp, t_chain, w_chain, t_isC, w_isC, w_isi, t_isi, t_bop1, t_bop, w_bop1, w_bop, t_nt, w_nt, w_ite, t_ite, w_nil, w_cons, a_tup, w_fz, w_mu, a_disp, a_comp, w_ofSeq, w_call, w_prim, w_ix, w_sl, w_rev, w_pop, w_popAt, w_app, w_att, w_prop, w_mk, e_nop, e_int, e_var, e_bin, i_seq, a_rng, rngA_int, a_rng2, rngB_int, a_zip, zipA_some, a_enum, enA_some, src_tsI, src_lsI, t_call, t_prim, tru_bl, opt_some, t_nop, List.getElem?_cons_zero, List.getElem?_cons_succ, setTg, setTgs, List.set_cons_zero, List.set_cons_succ, wp_ok, wipeE, len0, len1, len2, len3, len4, len5, len6, len7, len8, len9, len10, if_true, if_false, Bool.false_eq_true, eq_int, ne_int, gt_int, lt_int', le_int', ge_int', add_int, sub_int, abs_int, int_int, Option.map_some, src_lst, src_tup, ix_t0, ix_t1, ix_t2, ix_t3, ix_l0, ix_l1, ix_l2, is_non, and_true, true_and, w_minD, w_cut, ft0, ft1, ft2, ft3, ix_pr0, ix_pr1, tup_ints, is_false0, Bool.not_true, Bool.not_false])
    refine d8.wp k3 (by omega) (by simp) (by simp) fun t S4 m d4 g4 => ⟨?_, d4.mono (by omega), g0.trans (g1.trans (g2.trans (g3.trans g4)))⟩
    have hb2 : Tv.bulk (.tup ts) = Tv.bulks ts := rfl
    rw [hb2]
    simp only [List.cons_append, List.nil_append, List.mem_cons, List.not_mem_nil, or_false] at m
    have cu : ∀ lo hi, VOk (j + 1 + 3) (2 * Tv.bulks ts + 20) (.tup (cutL ts lo hi)) := fun lo hi => by
      obtain ⟨c1, c2, c3⟩ := cut_mem (ts := ts) (lo := lo) (hi := hi)
      exact vok_tup (fun t h => tr t (c1 t h)) (by omega)
    rcases m with rfl | rfl | rfl | rfl | rfl | rfl | rfl | rfl
    · exact w1
    · exact w2
    · refine vok_tup (k := j + 3) (fun t h => ?_) ?_
      · rcases List.mem_append.mp h with h | h
        · exact tr t h
        · rw [List.mem_singleton.mp h]
          exact rOk_mono (by omega) v3.r
      · rw [bulks_app]
        have := v3.b
        simp only [Tv.bulks]
        omega
    · exact cu _ _
    · refine vok_tup (k := j + 3) (fun t h => ?_) ?_
      · rcases List.mem_append.mp h with h | h
        · exact tr t h
        · exact tr t h
      · rw [bulks_app]
        omega
    · exact vok_lst (k := j + 3) tr (by omega)
    · exact cu _ _
    · refine vok_tup (k := j + 3) (fun t h => tr t (List.mem_reverse.mp h)) ?_
      rw [bulks_rev]
      omega
abbrev SBent (k : Nat) (m : FM) : Prop := ∀ (S : Sto) (b d : Nat) (v : Tv), Dk b S → Tv.pln d v = true → d ≤ 16 → Tv.bulk v ≤ 2000 → b + 10 * (k + 1) ≤ 900000 → (m [.cell 1, v, .int k] S).wp fun t S' => VOk (d + 3) (2 * Tv.bulk v + 20) t ∧ Dk (b + 10 * (k + 1)) S' ∧ Grow S S'
theorem bent_ok {cf : Nat → FM} {r : Ex} {k : Nat} (d7 : S7 (cf 7)) (d8 : S8 (cf 8)) (d152 : S152 (cf 152))
    (hr : k = 0 ∨ ∃ i j, r = .call i [(.var 0), (.ix (.var 1) (.var 4)), (.bin .sub (.var 2) (.int 1))] ∧ k = j + 1 ∧ SBent j (cf i)) : SBent k (runD cf (bentDf r)) := fun S b d v dk hv hd hB hb => by
  refine run_draw rfl dk (by omega) ?_
  show (exs cf Fu (bentDf r).body [some (.cell 1), some v, some (.int k), none, none] S).wp _
  have ro : Tv.rOk d v = true := pln_rOk (Nat.le_refl _) hv
  have i1 : ∀ S, isiV .tuple S v = some (isT v) := fun S => isi_T ro
  have tail := fun {S1 : Sto} {b1 : Nat} (j3 j4 : Option Tv) (k1 : Dk b1 S1) (h1 : b1 ≤ b + 1) (g : Grow S S1) => bent_tail (j2 := some (.int k)) (j3 := j3) (j4 := j4) (k := k) (c := b + 10 * (k + 1)) d8 d152 hv hB k1 (by omega) (by omega) g
  unfold bentDf
  rw [q_if]
  (try simp only [List.cons_append, List.nil_append, w_var, t_var, w_int, w_str, w_bl, w_non, w_gl, w_bin, w_neg, t_cmp, w_cmp, t_chain, w_chain, t_isC, w_isC, w_isi, t_isi, t_bop1, t_bop, w_bop1, w_bop, t_nt, w_nt, w_ite, t_ite, w_nil, w_cons, a_tup, w_fz, w_mu, a_disp, a_comp, w_ofSeq, w_call, w_prim, w_ix, w_sl, w_rev, w_pop, w_popAt, w_app, w_att, w_prop, w_mk, e_nop, e_int, e_var, e_bin, i_seq, a_rng, rngA_int, a_rng2, rngB_int, a_zip, zipA_some, a_enum, enA_some, src_tsI, src_lsI, t_call, t_prim, tru_bl, opt_some, t_nop, List.getElem?_cons_zero, List.getElem?_cons_succ, setTg, setTgs, List.set_cons_zero, List.set_cons_succ, wp_ok, wipeE, len0, len1, len2, len3, len4, len5, len6, len7, len8, len9, len10, if_true, if_false, Bool.false_eq_true, eq_int, ne_int, gt_int, lt_int', le_int', ge_int', add_int, sub_int, abs_int, int_int, Option.map_some, src_lst, src_tup, ix_t0, ix_t1, ix_t2, ix_t3, ix_l0, ix_l1, ix_l2, is_non, and_true, true_and, w_minD, w_cut, ft0, ft1, ft2, ft3, ix_pr0, ix_pr1, tup_ints, is_false0, Bool.not_true, Bool.not_false, i1])
  rcases pln_cases hv with ⟨i, rfl, hi⟩ | ⟨ts, j, rfl, rfl, ht⟩
  · (try simp only [List.cons_append, List.nil_append, w_var, t_var, w_int, w_str, w_bl, w_non, w_gl, w_bin, w_neg, t_cmp, w_cmp, t_chain, w_chain, t_isC, w_isC, w_isi, t_isi, t_bop1, t_bop, w_bop1, w_bop, t_nt, w_nt, w_ite, t_ite, w_nil, w_cons, a_tup, w_fz, w_mu, a_disp, a_comp, w_ofSeq, w_call, w_prim, w_ix, w_sl, w_rev, w_pop, w_popAt, w_app, w_att, w_prop, w_mk, e_nop, e_int, e_var, e_bin, i_seq, a_rng, rngA_int, a_rng2, rngB_int, a_zip, zipA_some, a_enum, enA_some, src_tsI, src_lsI, t_call, t_prim, tru_bl, opt_some, t_nop, List.getElem?_cons_zero, List.getElem?_cons_succ, setTg, setTgs, List.set_cons_zero, List.set_cons_succ, wp_ok, wipeE, len0, len1, len2, len3, len4, len5, len6, len7, len8, len9, len10, if_true, if_false, Bool.false_eq_true, eq_int, ne_int, gt_int, lt_int', le_int', ge_int', add_int, sub_int, abs_int, int_int, Option.map_some, src_lst, src_tup, ix_t0, ix_t1, ix_t2, ix_t3, ix_l0, ix_l1, ix_l2, is_non, and_true, true_and, w_minD, w_cut, ft0, ft1, ft2, ft3, ix_pr0, ix_pr1, tup_ints, is_false0, Bool.not_true, Bool.not_false, show isT (.int i) = false from rfl])
    rw [kI_f, List.nil_append]
    exact tail _ _ dk (by omega) (Grow.refl S)
  · have hB' : Tv.bulks ts ≤ 2000 := hB
    have tl : ts.length ≤ 2000 := Nat.le_trans bulks_len hB'
    have nt : ∀ S, cmpV .ne S (.tup ts) (.tup []) = some (!ts.isEmpty) := fun S => ne_tup (pln_dOk hd hv)
    (try simp only [List.cons_append, List.nil_append, w_var, t_var, w_int, w_str, w_bl, w_non, w_gl, w_bin, w_neg, t_cmp, w_cmp, t_chain, w_chain, t_isC, w_isC, w_isi, t_isi, t_bop1, t_bop, w_bop1, w_bop, t_nt, w_nt, w_ite, t_ite, w_nil, w_cons, a_tup, w_fz, w_mu, a_disp, a_comp, w_ofSeq, w_call, w_prim, w_ix, w_sl, w_rev, w_pop, w_popAt, w_app, w_att, w_prop, w_mk, e_nop, e_int, e_var, e_bin, i_seq, a_rng, rngA_int, a_rng2, rngB_int, a_zip, zipA_some, a_enum, enA_some, src_tsI, src_lsI, t_call, t_prim, tru_bl, opt_some, t_nop, List.getElem?_cons_zero, List.getElem?_cons_succ, setTg, setTgs, List.set_cons_zero, List.set_cons_succ, wp_ok, wipeE, len0, len1, len2, len3, len4, len5, len6, len7, len8, len9, len10, if_true, if_false, Bool.false_eq_true, eq_int, ne_int, gt_int, lt_int', le_int', ge_int', add_int, sub_int, abs_int, int_int, Option.map_some, src_lst, src_tup, ix_t0, ix_t1, ix_t2, ix_t3, ix_l0, ix_l1, ix_l2, is_non, and_true, true_and, w_minD, w_cut, ft0, ft1, ft2, ft3, ix_pr0, ix_pr1, tup_ints, is_false0, Bool.not_true, Bool.not_false, show isT (.tup ts) = true from rfl, nt])
    cases he : ts.isEmpty
    · have hne : ts ≠ [] := fun z => by rw [z] at he; cases he
      have h0 : 0 < ts.length := List.length_pos_iff.mpr hne
      (try simp only [List.cons_append, List.nil_append, w_var, t_var, w_int, w_str, w_bl, w_non, w_gl, w_bin, w_neg, t_cmp, w_cmp, t_chain, w_chain, t_isC, w_isC, w_isi, t_isi, t_bop1, t_bop, w_bop1, w_bop, t_nt, w_nt, w_ite, t_ite, w_nil, w_cons, a_tup, w_fz, w_mu, a_disp, a_comp, w_ofSeq, w_call, w_prim, w_ix, w_sl, w_rev, w_pop, w_popAt, w_app, w_att, w_prop, w_mk, e_nop, e_int, e_var, e_bin, i_seq, a_rng, rngA_int, a_rng2, rngB_int, a_zip, zipA_some, a_enum, enA_some, src_tsI, src_lsI, t_call, t_prim, tru_bl, opt_some, t_nop, List.getElem?_cons_zero, List.getElem?_cons_succ, setTg, setTgs, List.set_cons_zero, List.set_cons_succ, wp_ok, wipeE, len0, len1, len2, len3, len4, len5, len6, len7, len8, len9, len10, if_true, if_false, Bool.false_eq_true, eq_int, ne_int, gt_int, lt_int', le_int', ge_int', add_int, sub_int, abs_int, int_int, Option.map_some, src_lst, src_tup, ix_t0, ix_t1, ix_t2, ix_t3, ix_l0, ix_l1, ix_l2, is_non, and_true, true_and, w_minD, w_cut, ft0, ft1, ft2, ft3, ix_pr0, ix_pr1, tup_ints, is_false0, Bool.not_true, Bool.not_false, Bool.not_false])
      rcases hr with rfl | ⟨i, k', rfl, rfl, hi⟩
      · have z : decide ((((0 : Nat) : Int)) > 0) = false := rfl
        rw [z]
        (try simp only [List.cons_append, List.nil_append, w_var, t_var, w_int, w_str, w_bl, w_non, w_gl, w_bin, w_neg, t_cmp, w_cmp, t_chain, w_chain, t_isC, w_isC, w_isi, t_isi, t_bop1, t_bop, w_bop1, w_bop, t_nt, w_nt, w_ite, t_ite, w_nil, w_cons, a_tup, w_fz, w_mu, a_disp, a_comp, w_ofSeq, w_call, w_prim, w_ix, w_sl, w_rev, w_pop, w_popAt, w_app, w_att, w_prop, w_mk, e_nop, e_int, e_var, e_bin, i_seq, a_rng, rngA_int, a_rng2, rngB_int, a_zip, zipA_some, a_enum, enA_some, src_tsI, src_lsI, t_call, t_prim, tru_bl, opt_some, t_nop, List.getElem?_cons_zero, List.getElem?_cons_succ, setTg, setTgs, List.set_cons_zero, List.set_cons_succ, wp_ok, wipeE, len0, len1, len2, len3, len4, len5, len6, len7, len8, len9, len10, if_true, if_false, Bool.false_eq_true, eq_int, ne_int, gt_int, lt_int', le_int', ge_int', add_int, sub_int, abs_int, int_int, Option.map_some, src_lst, src_tup, ix_t0, ix_t1, ix_t2, ix_t3, ix_l0, ix_l1, ix_l2, is_non, and_true, true_and, w_minD, w_cut, ft0, ft1, ft2, ft3, ix_pr0, ix_pr1, tup_ints, is_false0, Bool.not_true, Bool.not_false])
        rw [kI_f, List.nil_append]
        exact tail _ _ dk (by omega) (Grow.refl S)
      · have z : decide ((((k' + 1 : Nat) : Int)) > 0) = true := decide_eq_true (by omega)
        rw [z]
        (try simp only [List.cons_append, List.nil_append, w_var, t_var, w_int, w_str, w_bl, w_non, w_gl, w_bin, w_neg, t_cmp, w_cmp, t_chain, w_chain, t_isC, w_isC, w_isi, t_isi, t_bop1, t_bop, w_bop1, w_bop, t_nt, w_nt, w_ite, t_ite, w_nil, w_cons, a_tup, w_fz, w_mu, a_disp, a_comp, w_ofSeq, w_call, w_prim, w_ix, w_sl, w_rev, w_pop, w_popAt, w_app, w_att, w_prop, w_mk, e_nop, e_int, e_var, e_bin, i_seq, a_rng, rngA_int, a_rng2, rngB_int, a_zip, zipA_some, a_enum, enA_some, src_tsI, src_lsI, t_call, t_prim, tru_bl, opt_some, t_nop, List.getElem?_cons_zero, List.getElem?_cons_succ, setTg, setTgs, List.set_cons_zero, List.set_cons_succ, wp_ok, wipeE, len0, len1, len2, len3, len4, len5, len6, len7, len8, len9, len10, if_true, if_false, Bool.false_eq_true, eq_int, ne_int, gt_int, lt_int', le_int', ge_int', add_int, sub_int, abs_int, int_int, Option.map_some, src_lst, src_tup, ix_t0, ix_t1, ix_t2, ix_t3, ix_l0, ix_l1, ix_l2, is_non, and_true, true_and, w_minD, w_cut, ft0, ft1, ft2, ft3, ix_pr0, ix_pr1, tup_ints, is_false0, Bool.not_true, Bool.not_false])
        refine d7.wp dk (by omega) (by decide) (by decide) fun x S1 x0 x1 k1 g1 => ?_
        (try simp only [List.cons_append, List.nil_append, w_var, t_var, w_int, w_str, w_bl, w_non, w_gl, w_bin, w_neg, t_cmp, w_cmp, t_chain, w_chain, t_isC, w_isC, w_isi, t_isi, t_bop1, t_bop, w_bop1, w_bop, t_nt, w_nt, w_ite, t_ite, w_nil, w_cons, a_tup, w_fz, w_mu, a_disp, a_comp, w_ofSeq, w_call, w_prim, w_ix, w_sl, w_rev, w_pop, w_popAt, w_app, w_att, w_prop, w_mk, e_nop, e_int, e_var, e_bin, i_seq, a_rng, rngA_int, a_rng2, rngB_int, a_zip, zipA_some, a_enum, enA_some, src_tsI, src_lsI, t_call, t_prim, tru_bl, opt_some, t_nop, List.getElem?_cons_zero, List.getElem?_cons_succ, setTg, setTgs, List.set_cons_zero, List.set_cons_succ, wp_ok, wipeE, len0, len1, len2, len3, len4, len5, len6, len7, len8, len9, len10, if_true, if_false, Bool.false_eq_true, eq_int, ne_int, gt_int, lt_int', le_int', ge_int', add_int, sub_int, abs_int, int_int, Option.map_some, src_lst, src_tup, ix_t0, ix_t1, ix_t2, ix_t3, ix_l0, ix_l1, ix_l2, is_non, and_true, true_and, w_minD, w_cut, ft0, ft1, ft2, ft3, ix_pr0, ix_pr1, tup_ints, is_false0, Bool.not_true, Bool.not_false])
        by_cases c : x > 0
        · rw [decide_eq_true c, kI_t]
          simp only [List.cons_append, List.nil_append]
          rw [q_asg]
          (try simp only [List.cons_append, List.nil_append, w_var, t_var, w_int, w_str, w_bl, w_non, w_gl, w_bin, w_neg, t_cmp, w_cmp, t_chain, w_chain, t_isC, w_isC, w_isi, t_isi, t_bop1, t_bop, w_bop1, w_bop, t_nt, w_nt, w_ite, t_ite, w_nil, w_cons, a_tup, w_fz, w_mu, a_disp, a_comp, w_ofSeq, w_call, w_prim, w_ix, w_sl, w_rev, w_pop, w_popAt, w_app, w_att, w_prop, w_mk, e_nop, e_int, e_var, e_bin, i_seq, a_rng, rngA_int, a_rng2, rngB_int, a_zip, zipA_some, a_enum, enA_some, src_tsI, src_lsI, t_call, t_prim, tru_bl, opt_some, t_nop, List.getElem?_cons_zero, List.getElem?_cons_succ, setTg, setTgs, List.set_cons_zero, List.set_cons_succ, wp_ok, wipeE, len0, len1, len2, len3, len4, len5, len6, len7, len8, len9, len10, if_true, if_false, Bool.false_eq_true, eq_int, ne_int, gt_int, lt_int', le_int', ge_int', add_int, sub_int, abs_int, int_int, Option.map_some, src_lst, src_tup, ix_t0, ix_t1, ix_t2, ix_t3, ix_l0, ix_l1, ix_l2, is_non, and_true, true_and, w_minD, w_cut, ft0, ft1, ft2, ft3, ix_pr0, ix_pr1, tup_ints, is_false0, Bool.not_true, Bool.not_false, len_tup])
          refine d7.wp k1 (by omega) (by omega) (by omega) fun a S2 a0 a1 k2 g2 => ?_
          obtain ⟨a, rfl⟩ := Int.eq_ofNat_of_zero_le a0
          have ha : a < ts.length := by omega
          rw [kA_eq]
          (try simp only [List.cons_append, List.nil_append, w_var, t_var, w_int, w_str, w_bl, w_non, w_gl, w_bin, w_neg, t_cmp, w_cmp, t_chain, w_chain, t_isC, w_isC, w_isi, t_isi, t_bop1, t_bop, w_bop1, w_bop, t_nt, w_nt, w_ite, t_ite, w_nil, w_cons, a_tup, w_fz, w_mu, a_disp, a_comp, w_ofSeq, w_call, w_prim, w_ix, w_sl, w_rev, w_pop, w_popAt, w_app, w_att, w_prop, w_mk, e_nop, e_int, e_var, e_bin, i_seq, a_rng, rngA_int, a_rng2, rngB_int, a_zip, zipA_some, a_enum, enA_some, src_tsI, src_lsI, t_call, t_prim, tru_bl, opt_some, t_nop, List.getElem?_cons_zero, List.getElem?_cons_succ, setTg, setTgs, List.set_cons_zero, List.set_cons_succ, wp_ok, wipeE, len0, len1, len2, len3, len4, len5, len6, len7, len8, len9, len10, if_true, if_false, Bool.false_eq_true, eq_int, ne_int, gt_int, lt_int', le_int', ge_int', add_int, sub_int, abs_int, int_int, Option.map_some, src_lst, src_tup, ix_t0, ix_t1, ix_t2, ix_t3, ix_l0, ix_l1, ix_l2, is_non, and_true, true_and, w_minD, w_cut, ft0, ft1, ft2, ft3, ix_pr0, ix_pr1, tup_ints, is_false0, Bool.not_true, Bool.not_false])
          rw [q_ret]
          have s1 : ∀ S, slV S (.tup ts) none (some (a : Int)) = some (.tup (ts.take a)) := fun S => sl_to (by omega)
          have s2 : ∀ S, slV S (.tup ts) (some ((a : Int) + 1)) none = some (.tup (ts.drop (a + 1))) := fun S => by
            rw [show ((a : Int) + 1) = ((a + 1 : Nat) : Int) by omega]
            exact sl_from (by omega)
          have x1 : ∀ S, ixV S (.tup ts) (.int (a : Int)) = some ts[a] := fun S => ix_nat (List.getElem?_eq_getElem ha)
          have em : ts[a] ∈ ts := List.getElem_mem ha
          have es : Tv.bulks ts = Tv.bulks (ts.take a) + (Tv.bulk ts[a] + 1 + Tv.bulks (ts.drop (a + 1))) := by
            have z := bulks_app (a := ts.take a) (b := ts.drop a)
            rw [List.take_append_drop, List.drop_eq_getElem_cons ha] at z
            exact z
          have ek : (((k' + 1 : Nat) : Int)) - 1 = (k' : Int) := by omega
          (try simp only [List.cons_append, List.nil_append, w_var, t_var, w_int, w_str, w_bl, w_non, w_gl, w_bin, w_neg, t_cmp, w_cmp, t_chain, w_chain, t_isC, w_isC, w_isi, t_isi, t_bop1, t_bop, w_bop1, w_bop, t_nt, w_nt, w_ite, t_ite, w_nil, w_cons, a_tup, w_fz, w_mu, a_disp, a_comp, w_ofSeq, w_call, w_prim, w_ix, w_sl, w_rev, w_pop, w_popAt, w_app, w_att, w_prop, w_mk, e_nop, e_int, e_var, e_bin, i_seq, a_rng, rngA_int, a_rng2, rngB_int, a_zip, zipA_some, a_enum, enA_some, src_tsI, src_lsI, t_call, t_prim, tru_bl, opt_some, t_nop, List.getElem?_cons_zero, List.getElem?_cons_succ, setTg, setTgs, List.set_cons_zero, List.set_cons_succ, wp_ok, wipeE, len0, len1, len2, len3, len4, len5, len6, len7, len8, len9, len10, if_true, if_false, Bool.false_eq_true, eq_int, ne_int, gt_int, lt_int', le_int', ge_int', add_int, sub_int, abs_int, int_int, Option.map_some, src_lst, src_tup, ix_t0, ix_t1, ix_t2, ix_t3, ix_l0, ix_l1, ix_l2, is_non, and_true, true_and, w_minD, w_cut, ft0, ft1, ft2, ft3, ix_pr0, ix_pr1, tup_ints, is_false0, Bool.not_true, Bool.not_false, s1, s2, x1, ek])
          refine wp_mono (hi S2 _ j ts[a] k2 (ht _ em) (by omega) (by omega) (by omega)) ?_
          rintro t S3 ⟨v3, k3, g3⟩
          have ad1 : ∀ S, binV .add S (.tup (ts.take a)) (.tup [t]) = some (.tup (ts.take a ++ [t])) := fun S => add_tups (by rw [List.length_take, List.length_singleton]; omega)
          have ad2 : ∀ S, binV .add S (.tup (ts.take a ++ [t])) (.tup (ts.drop (a + 1))) = some (.tup (ts.take a ++ [t] ++ ts.drop (a + 1))) := fun S => add_tups (by rw [List.length_append, List.length_take, List.length_singleton, List.length_drop]; omega)
          (try simp only [List.cons_append, List.nil_append, w_var, t_var, w_int, w_str, w_bl, w_non, w_gl, w_bin, w_neg, t_cmp, w_cmp, t_chain, w_chain, t_isC, w_isC, w_isi, t_isi, t_bop1, t_bop, w_bop1, w_bop, t_nt, w_nt, w_ite, t_ite, w_nil, w_cons, a_tup, w_fz, w_mu, a_disp, a_comp, w_ofSeq, w_call, w_prim, w_ix, w_sl, w_rev, w_pop, w_popAt, w_app, w_att, w_prop, w_mk, e_nop, e_int, e_var, e_bin, i_seq, a_rng, rngA_int, a_rng2, rngB_int, a_zip, zipA_some, a_enum, enA_some, src_tsI, src_lsI, t_call, t_prim, tru_bl, opt_some, t_nop, List.getElem?_cons_zero, List.getElem?_cons_succ, setTg, setTgs, List.set_cons_zero, List.set_cons_succ, wp_ok, wipeE, len0, len1, len2, len3, len4, len5, len6, len7, len8, len9, len10, if_true, if_false, Bool.false_eq_true, eq_int, ne_int, gt_int, lt_int', le_int', ge_int', add_int, sub_int, abs_int, int_int, Option.map_some, src_lst, src_tup, ix_t0, ix_t1, ix_t2, ix_t3, ix_l0, ix_l1, ix_l2, is_non, and_true, true_and, w_minD, w_cut, ft0, ft1, ft2, ft3, ix_pr0, ix_pr1, tup_ints, is_false0, Bool.not_true, Bool.not_false, ad1, ad2])
          refine ⟨vok_tup (k := j + 3) (fun u hu => ?_) ?_, k3.mono (by omega), g1.trans (g2.trans g3)⟩
          · have tr : ∀ t ∈ ts, Tv.rOk (j + 3) t = true := fun t h => pln_rOk (by omega) (ht t h)
            rcases List.mem_append.mp hu with hu | hu
            · rcases List.mem_append.mp hu with hu | hu
              · exact tr u (List.mem_of_mem_take hu)
              · rw [List.mem_singleton.mp hu]
                exact v3.r
            · exact tr u (List.mem_of_mem_drop hu)
          · have := v3.b
            rw [bulks_app, bulks_app]
            show _ ≤ 2 * Tv.bulks ts + 20
            simp only [Tv.bulks]
            omega
        · rw [decide_eq_false c, kI_f, List.nil_append]
          exact tail _ _ k1 (by omega) g1
    · (try simp only [List.cons_append, List.nil_append, w_var, t_var, w_int, w_str, w_bl, w_non, w_gl, w_bin, w_neg, t_cmp, w_cmp, t_chain, w_chain, t_isC, w_isC, w_isi, t_isi, t_bop1, t_bop, w_bop1, w_bop, t_nt, w_nt, w_ite, t_ite, w_nil, w_cons, a_tup, w_fz, w_mu, a_disp, a_comp, w_ofSeq, w_call, w_prim, w_ix, w_sl, w_rev, w_pop, w_popAt, w_app, w_att, w_prop, w_mk, e_nop, e_int, e_var, e_bin, i_seq, a_rng, rngA_int, a_rng2, rngB_int, a_zip, zipA_some, a_enum, enA_some, src_tsI, src_lsI, t_call, t_prim, tru_bl, opt_some, t_nop, List.getElem?_cons_zero, List.getElem?_cons_succ, setTg, setTgs, List.set_cons_zero, List.set_cons_succ, wp_ok, wipeE, len0, len1, len2, len3, len4, len5, len6, len7, len8, len9, len10, if_true, if_false, Bool.false_eq_true, eq_int, ne_int, gt_int, lt_int', le_int', ge_int', add_int, sub_int, abs_int, int_int, Option.map_some, src_lst, src_tup, ix_t0, ix_t1, ix_t2, ix_t3, ix_l0, ix_l1, ix_l2, is_non, and_true, true_and, w_minD, w_cut, ft0, ft1, ft2, ft3, ix_pr0, ix_pr1, tup_ints, is_false0, Bool.not_true, Bool.not_false, Bool.not_true])
      rw [kI_f, List.nil_append]
      exact tail _ _ dk (by omega) (Grow.refl S)
abbrev S153 (m : FM) : Prop := SBent 0 m
abbrev S154 (m : FM) : Prop := SBent 1 m
abbrev S155 (m : FM) : Prop := SBent 2 m
theorem ok153 {cf : Nat → FM} (d7 : S7 (cf 7)) (d8 : S8 (cf 8)) (d152 : S152 (cf 152)) : S153 (runD cf xLawBent0) := bent_ok d7 d8 d152 (.inl rfl)
theorem ok154 {cf : Nat → FM} (d7 : S7 (cf 7)) (d8 : S8 (cf 8)) (d152 : S152 (cf 152)) (d153 : S153 (cf 153)) : S154 (runD cf xLawBent1) := bent_ok d7 d8 d152 (.inr ⟨153, 0, rfl, rfl, d153⟩)
theorem ok155 {cf : Nat → FM} (d7 : S7 (cf 7)) (d8 : S8 (cf 8)) (d152 : S152 (cf 152)) (d154 : S154 (cf 154)) : S155 (runD cf xLawBent2) := bent_ok d7 d8 d152 (.inr ⟨154, 1, rfl, rfl, d154⟩)
end Mp
namespace Mp
/-! ### k04 -/
theorem for_id {w : List (Nat × List Tv)} {tg : Tg} {body : Env → Sto → Sr} {D : Po} {xs : List Tv} (P : List Tv → List Tv → Env → Sto → Prop) (hw : ∀ dn r e S, P dn r e S → stays w S = true)
    (step : ∀ dn x r env S, xs = dn ++ x :: r → P dn (x :: r) env S → match setTg tg x env with
      | some e => (body e S).wp { nx := P (dn ++ [x]) r, ct := P (dn ++ [x]) r, bk := D.nx, rt := D.rt }
      | none => False) (fin : ∀ env S, P xs [] env S → D.nx env S) {env : Env} {S : Sto} (h0 : P [] xs env S) : (forL w tg body xs env S).wp D := by
  have z := for_on (f := id) (xs := xs) P hw step fin h0
  rwa [List.map_id] at z
theorem thaw_ok {k : Nat} {t : Tv} {S : Sto} (h : Tv.rOk k t = true) : thaw S t = some t := by
  cases k <;> cases t <;> first | rfl | (simp [Tv.rOk] at h)
theorem VOk.repr {k B : Nat} {t : Tv} (h : VOk k B t) (hk : k ≤ 16) (hB : B ≤ 20000) {S : Sto} : primV .repr S [t] = some (.str (Tv.shown t)) :=
  repr_ok (thaw_ok h.r) (rOk_mono hk h.r) (Nat.le_trans h.b hB)
theorem vok_pair {j : Int} {nm : PySem.Str} (hj : j.natAbs ≤ 1000) (h : Tv.rOk 1 (.str nm) = true) (hl : nm.length ≤ 50) : VOk 2 100 (.tup [.int j, .str nm]) := by
  refine vok_tup (k := 1) (fun t ht => ?_) ?_
  · simp only [List.mem_cons, List.not_mem_nil, or_false] at ht
    rcases ht with rfl | rfl
    · exact (vok_int (k := 1) (B := 0) ((Bd.of (k := 10) hj (by decide)).mono (by decide))).r
    · exact h
  · simp only [Tv.bulks, Tv.bulk]
    omega
theorem firstB_ok {p : Tv → Bool} {nm : PySem.Str} (h : Tv.rOk 1 (.str nm) = true) (hl : nm.length ≤ 50) : ∀ {ts : List Tv} {j : Nat}, j + ts.length ≤ 1000 → VOk 2 100 (firstB p nm j ts)
  | [], j, _ => ⟨rfl, Nat.zero_le _⟩
  | t :: r, j, hj => by
    simp only [List.length_cons] at hj
    simp only [firstB]
    split
    · exact firstB_ok h hl (by omega)
    · exact vok_pair (by omega) h hl
theorem rep_mem {α : Type} {xs : List α} : ∀ {k : Nat} {t : α}, t ∈ rep k xs → t ∈ xs
  | 0, t, h => by simp [rep] at h
  | k + 1, t, h => by
    unfold rep at h
    rw [List.replicate_succ, List.flatten_cons] at h
    rcases List.mem_append.mp h with h | h
    · exact h
    · exact rep_mem (k := k) h
theorem rep_bulks {xs : List Tv} : ∀ {k : Nat}, Tv.bulks (rep k xs) = k * Tv.bulks xs
  | 0 => by simp [rep, Tv.bulks]
  | k + 1 => by
    have ih := rep_bulks (xs := xs) (k := k)
    unfold rep at ih ⊢
    rw [List.replicate_succ, List.flatten_cons, bulks_app, ih, Nat.succ_mul]
    omega
theorem tsI_pln {r : List Int} (h : ∀ x ∈ r, Bd 1000 x) : Tv.pln 1 (tsI r) = true := by
  unfold tsI
  simp only [Tv.pln]
  refine plns_all.mpr fun t ht => ?_
  obtain ⟨x, hx, rfl⟩ := List.mem_map.mp ht
  simp only [Tv.pln]
  exact decide_eq_true (h x hx)
theorem mul_tup {S : Sto} {ts : List Tv} {k : Nat} (h1 : 1 ≤ k) (h2 : k ≤ 1000) (h3 : ts.length ≤ 1000) (h4 : ts ≠ []) : binV .mul S (.tup ts) (.int (k : Int)) = some (.tup (rep k ts)) := by
  show (if 1 ≤ (k : Int) ∧ (k : Int) ≤ 1000 ∧ ts.length ≤ 1000 ∧ ts ≠ [] then some (Tv.tup (rep (k : Int).toNat ts)) else none) = _
  rw [if_pos ⟨by omega, by omega, h3, h4⟩]
  rfl
end Mp
namespace Mp
/-! ### what is no map -/
def roadB (n : Nat) (P : Int) : Tv → Bool
  | .tup [.int a, .int b, c] => wayB n c && (decide (0 ≤ a) && decide (a ≤ P - 1)) && (decide (0 ≤ b) && decide (b ≤ P - 1)) && !decide (a = b)
  | _ => false
def mapErr (n : Nat) : Tv → Tv
  | .tup [.int P, .tup rs] => if (2 ≤ P ∧ P ≤ 6) ∧ rs.length ≤ 12 then firstB (roadB n P) "road" 0 rs else .tup [.int (-1), .str "map"]
  | _ => .tup [.int (-1), .str "map"]
theorem lenB_2 {t : Tv} (h : lenB 2 2 t = true) : ∃ a b, t = .tup [a, b] := by
  cases t with
  | tup ts =>
    unfold lenB at h
    rw [Bool.and_eq_true] at h
    have h1 := of_decide_eq_true h.1
    have h2 := of_decide_eq_true h.2
    match ts, h1, h2 with
    | [], h1, _ => simp at h1
    | [_], h1, _ => simp at h1
    | [a, b], _, _ => exact ⟨a, b, rfl⟩
    | _ :: _ :: _ :: _, _, h2 => simp at h2; omega
  | _ => cases h
theorem lenB_3 {t : Tv} (h : lenB 3 3 t = true) : ∃ a b c, t = .tup [a, b, c] := by
  cases t with
  | tup ts =>
    unfold lenB at h
    rw [Bool.and_eq_true] at h
    have h1 := of_decide_eq_true h.1
    have h2 := of_decide_eq_true h.2
    match ts, h1, h2 with
    | [], h1, _ => simp at h1
    | [_], h1, _ => simp at h1
    | [_, _], h1, _ => simp at h1
    | [a, b, c], _, _ => exact ⟨a, b, c, rfl⟩
    | _ :: _ :: _ :: _ :: _, _, h2 => simp at h2; omega
  | _ => cases h
theorem inB_int {lo hi : Int} {t : Tv} (h : inB lo hi t = true) : ∃ i, t = .int i ∧ lo ≤ i ∧ i ≤ hi := by
  cases t with
  | int i =>
    unfold inB at h
    rw [Bool.and_eq_true] at h
    exact ⟨i, rfl, of_decide_eq_true h.1, of_decide_eq_true h.2⟩
  | _ => cases h
theorem roadB_no {n : Nat} {P : Int} {t : Tv} (h : lenB 3 3 t = false) : roadB n P t = false := by
  cases e : roadB n P t with
  | false => rfl
  | true =>
    unfold roadB at e
    split at e
    · cases h
    · cases e
theorem roadB_eq {n : Nat} {P : Int} {a b c : Tv} : roadB n P (.tup [a, b, c]) = (wayB n c && inB 0 (P - 1) a && inB 0 (P - 1) b && !decide (a = b)) := by
  cases a with
  | int i =>
    cases b with
    | int j =>
      unfold roadB inB
      simp only [Tv.int.injEq]
    | _ => simp [roadB, inB]
  | _ => simp [roadB, inB]
abbrev S146c (m : FM) : Prop := ∀ (S : Sto) (t : Tv) (n k : Nat) (P : Int), Tv.rOk k t = true → n ≤ 1000 → m [.int n, .int P, t] S = .ok (.bl (roadB n P t)) S
theorem ok146c {cf : Nat → FM} (d34 : S34c (cf 34)) (d41 : S41c (cf 41)) (d145 : S145c (cf 145)) : S146c (runD cf xIsRoad) := fun S t n k P h hn => by
  refine run_eq rfl ?_
  show (exs cf Fu xIsRoad.body [some (.int n), some (.int P), some t] S).wp _
  unfold xIsRoad
  rw [q_if]
  (try simp only [List.cons_append, List.nil_append, w_var, t_var, w_int, w_str, w_bl, w_non, w_gl, w_bin, w_neg, t_cmp, w_cmp, t_chain, w_chain, t_isC, w_isC, w_isi, t_isi, t_bop1, t_bop, w_bop1, w_bop, t_nt, w_nt, w_ite, t_ite, w_nil, w_cons, a_tup, w_fz, w_mu, a_disp, a_comp, w_ofSeq, w_call, w_prim, w_ix, w_sl, w_rev, w_pop, w_popAt, w_app, w_att, w_prop, w_mk, e_nop, e_int, e_var, e_bin, i_seq, a_rng, rngA_int, a_rng2, rngB_int, a_zip, zipA_some, a_enum, enA_some, src_tsI, src_lsI, t_call, t_prim, tru_bl, opt_some, t_nop, List.getElem?_cons_zero, List.getElem?_cons_succ, setTg, setTgs, List.set_cons_zero, List.set_cons_succ, wp_ok, wipeE, len0, len1, len2, len3, len4, len5, len6, len7, len8, len9, len10, if_true, if_false, Bool.false_eq_true, eq_int, ne_int, gt_int, lt_int', le_int', ge_int', add_int, sub_int, abs_int, int_int, Option.map_some, src_lst, src_tup, ix_t0, ix_t1, ix_t2, ix_t3, ix_l0, ix_l1, ix_l2, is_non, and_true, true_and, w_minD, w_cut, ft0, ft1, ft2, ft3, ix_pr0, ix_pr1, tup_ints, is_false0, Bool.not_true, Bool.not_false, d41 _ t 3 3 k h])
  cases hb : lenB 3 3 t
  · simp only [Bool.not_false, Bool.true_eq_false, if_false]
    rw [kI_t]
    simp only [List.cons_append, List.nil_append]
    rw [q_ret]
    (try simp only [List.cons_append, List.nil_append, w_var, t_var, w_int, w_str, w_bl, w_non, w_gl, w_bin, w_neg, t_cmp, w_cmp, t_chain, w_chain, t_isC, w_isC, w_isi, t_isi, t_bop1, t_bop, w_bop1, w_bop, t_nt, w_nt, w_ite, t_ite, w_nil, w_cons, a_tup, w_fz, w_mu, a_disp, a_comp, w_ofSeq, w_call, w_prim, w_ix, w_sl, w_rev, w_pop, w_popAt, w_app, w_att, w_prop, w_mk, e_nop, e_int, e_var, e_bin, i_seq, a_rng, rngA_int, a_rng2, rngB_int, a_zip, zipA_some, a_enum, enA_some, src_tsI, src_lsI, t_call, t_prim, tru_bl, opt_some, t_nop, List.getElem?_cons_zero, List.getElem?_cons_succ, setTg, setTgs, List.set_cons_zero, List.set_cons_succ, wp_ok, wipeE, len0, len1, len2, len3, len4, len5, len6, len7, len8, len9, len10, if_true, if_false, Bool.false_eq_true, eq_int, ne_int, gt_int, lt_int', le_int', ge_int', add_int, sub_int, abs_int, int_int, Option.map_some, src_lst, src_tup, ix_t0, ix_t1, ix_t2, ix_t3, ix_l0, ix_l1, ix_l2, is_non, and_true, true_and, w_minD, w_cut, ft0, ft1, ft2, ft3, ix_pr0, ix_pr1, tup_ints, is_false0, Bool.not_true, Bool.not_false, roadB_no hb])
  · obtain ⟨a, b, c, rfl⟩ := lenB_3 hb
    obtain ⟨j, rfl, ht⟩ := rOk_tup h
    have ha := ht a (by simp)
    have hb' := ht b (by simp)
    have hc := ht c (by simp)
    have x0 : ∀ S, ixV S (.tup [a, b, c]) (.int 0) = some a := fun S => rfl
    have x1 : ∀ S, ixV S (.tup [a, b, c]) (.int 1) = some b := fun S => rfl
    have x2 : ∀ S, ixV S (.tup [a, b, c]) (.int 2) = some c := fun S => rfl
    (try simp only [List.cons_append, List.nil_append, w_var, t_var, w_int, w_str, w_bl, w_non, w_gl, w_bin, w_neg, t_cmp, w_cmp, t_chain, w_chain, t_isC, w_isC, w_isi, t_isi, t_bop1, t_bop, w_bop1, w_bop, t_nt, w_nt, w_ite, t_ite, w_nil, w_cons, a_tup, w_fz, w_mu, a_disp, a_comp, w_ofSeq, w_call, w_prim, w_ix, w_sl, w_rev, w_pop, w_popAt, w_app, w_att, w_prop, w_mk, e_nop, e_int, e_var, e_bin, i_seq, a_rng, rngA_int, a_rng2, rngB_int, a_zip, zipA_some, a_enum, enA_some, src_tsI, src_lsI, t_call, t_prim, tru_bl, opt_some, t_nop, List.getElem?_cons_zero, List.getElem?_cons_succ, setTg, setTgs, List.set_cons_zero, List.set_cons_succ, wp_ok, wipeE, len0, len1, len2, len3, len4, len5, len6, len7, len8, len9, len10, if_true, if_false, Bool.false_eq_true, eq_int, ne_int, gt_int, lt_int', le_int', ge_int', add_int, sub_int, abs_int, int_int, Option.map_some, src_lst, src_tup, ix_t0, ix_t1, ix_t2, ix_t3, ix_l0, ix_l1, ix_l2, is_non, and_true, true_and, w_minD, w_cut, ft0, ft1, ft2, ft3, ix_pr0, ix_pr1, tup_ints, is_false0, Bool.not_true, Bool.not_false, Bool.not_true, x2, d145 _ c n j hc hn])
    rw [roadB_eq]
    cases hw : wayB n c
    · simp only [Bool.not_false]
      rw [kI_t]
      simp only [List.cons_append, List.nil_append]
      rw [q_ret]
      (try simp only [List.cons_append, List.nil_append, w_var, t_var, w_int, w_str, w_bl, w_non, w_gl, w_bin, w_neg, t_cmp, w_cmp, t_chain, w_chain, t_isC, w_isC, w_isi, t_isi, t_bop1, t_bop, w_bop1, w_bop, t_nt, w_nt, w_ite, t_ite, w_nil, w_cons, a_tup, w_fz, w_mu, a_disp, a_comp, w_ofSeq, w_call, w_prim, w_ix, w_sl, w_rev, w_pop, w_popAt, w_app, w_att, w_prop, w_mk, e_nop, e_int, e_var, e_bin, i_seq, a_rng, rngA_int, a_rng2, rngB_int, a_zip, zipA_some, a_enum, enA_some, src_tsI, src_lsI, t_call, t_prim, tru_bl, opt_some, t_nop, List.getElem?_cons_zero, List.getElem?_cons_succ, setTg, setTgs, List.set_cons_zero, List.set_cons_succ, wp_ok, wipeE, len0, len1, len2, len3, len4, len5, len6, len7, len8, len9, len10, if_true, if_false, Bool.false_eq_true, eq_int, ne_int, gt_int, lt_int', le_int', ge_int', add_int, sub_int, abs_int, int_int, Option.map_some, src_lst, src_tup, ix_t0, ix_t1, ix_t2, ix_t3, ix_l0, ix_l1, ix_l2, is_non, and_true, true_and, w_minD, w_cut, ft0, ft1, ft2, ft3, ix_pr0, ix_pr1, tup_ints, is_false0, Bool.not_true, Bool.not_false])
      simp
    · simp only [Bool.not_true]
      rw [kI_f, List.nil_append, q_if]
      (try simp only [List.cons_append, List.nil_append, w_var, t_var, w_int, w_str, w_bl, w_non, w_gl, w_bin, w_neg, t_cmp, w_cmp, t_chain, w_chain, t_isC, w_isC, w_isi, t_isi, t_bop1, t_bop, w_bop1, w_bop, t_nt, w_nt, w_ite, t_ite, w_nil, w_cons, a_tup, w_fz, w_mu, a_disp, a_comp, w_ofSeq, w_call, w_prim, w_ix, w_sl, w_rev, w_pop, w_popAt, w_app, w_att, w_prop, w_mk, e_nop, e_int, e_var, e_bin, i_seq, a_rng, rngA_int, a_rng2, rngB_int, a_zip, zipA_some, a_enum, enA_some, src_tsI, src_lsI, t_call, t_prim, tru_bl, opt_some, t_nop, List.getElem?_cons_zero, List.getElem?_cons_succ, setTg, setTgs, List.set_cons_zero, List.set_cons_succ, wp_ok, wipeE, len0, len1, len2, len3, len4, len5, len6, len7, len8, len9, len10, if_true, if_false, Bool.false_eq_true, eq_int, ne_int, gt_int, lt_int', le_int', ge_int', add_int, sub_int, abs_int, int_int, Option.map_some, src_lst, src_tup, ix_t0, ix_t1, ix_t2, ix_t3, ix_l0, ix_l1, ix_l2, is_non, and_true, true_and, w_minD, w_cut, ft0, ft1, ft2, ft3, ix_pr0, ix_pr1, tup_ints, is_false0, Bool.not_true, Bool.not_false, x0, x1, d34 _ a 0 (P - 1) j ha])
      cases h0 : inB 0 (P - 1) a
      · simp only [Bool.not_false, Bool.true_eq_false, if_false]
        rw [kI_t]
        simp only [List.cons_append, List.nil_append]
        rw [q_ret]
        (try simp only [List.cons_append, List.nil_append, w_var, t_var, w_int, w_str, w_bl, w_non, w_gl, w_bin, w_neg, t_cmp, w_cmp, t_chain, w_chain, t_isC, w_isC, w_isi, t_isi, t_bop1, t_bop, w_bop1, w_bop, t_nt, w_nt, w_ite, t_ite, w_nil, w_cons, a_tup, w_fz, w_mu, a_disp, a_comp, w_ofSeq, w_call, w_prim, w_ix, w_sl, w_rev, w_pop, w_popAt, w_app, w_att, w_prop, w_mk, e_nop, e_int, e_var, e_bin, i_seq, a_rng, rngA_int, a_rng2, rngB_int, a_zip, zipA_some, a_enum, enA_some, src_tsI, src_lsI, t_call, t_prim, tru_bl, opt_some, t_nop, List.getElem?_cons_zero, List.getElem?_cons_succ, setTg, setTgs, List.set_cons_zero, List.set_cons_succ, wp_ok, wipeE, len0, len1, len2, len3, len4, len5, len6, len7, len8, len9, len10, if_true, if_false, Bool.false_eq_true, eq_int, ne_int, gt_int, lt_int', le_int', ge_int', add_int, sub_int, abs_int, int_int, Option.map_some, src_lst, src_tup, ix_t0, ix_t1, ix_t2, ix_t3, ix_l0, ix_l1, ix_l2, is_non, and_true, true_and, w_minD, w_cut, ft0, ft1, ft2, ft3, ix_pr0, ix_pr1, tup_ints, is_false0, Bool.not_true, Bool.not_false])
        simp
      · (try simp only [List.cons_append, List.nil_append, w_var, t_var, w_int, w_str, w_bl, w_non, w_gl, w_bin, w_neg, t_cmp, w_cmp, t_chain, w_chain, t_isC, w_isC, w_isi, t_isi, t_bop1, t_bop, w_bop1, w_bop, t_nt, w_nt, w_ite, t_ite, w_nil, w_cons, a_tup, w_fz, w_mu, a_disp, a_comp, w_ofSeq, w_call, w_prim, w_ix, w_sl, w_rev, w_pop, w_popAt, w_app, w_att, w_prop, w_mk, e_nop, e_int, e_var, e_bin, i_seq, a_rng, rngA_int, a_rng2, rngB_int, a_zip, zipA_some, a_enum, enA_some, src_tsI, src_lsI, t_call, t_prim, tru_bl, opt_some, t_nop, List.getElem?_cons_zero, List.getElem?_cons_succ, setTg, setTgs, List.set_cons_zero, List.set_cons_succ, wp_ok, wipeE, len0, len1, len2, len3, len4, len5, len6, len7, len8, len9, len10, if_true, if_false, Bool.false_eq_true, eq_int, ne_int, gt_int, lt_int', le_int', ge_int', add_int, sub_int, abs_int, int_int, Option.map_some, src_lst, src_tup, ix_t0, ix_t1, ix_t2, ix_t3, ix_l0, ix_l1, ix_l2, is_non, and_true, true_and, w_minD, w_cut, ft0, ft1, ft2, ft3, ix_pr0, ix_pr1, tup_ints, is_false0, Bool.not_true, Bool.not_false, Bool.not_true, x1, d34 _ b 0 (P - 1) j hb'])
        cases h1 : inB 0 (P - 1) b
        · simp only [Bool.not_false]
          rw [kI_t]
          simp only [List.cons_append, List.nil_append]
          rw [q_ret]
          (try simp only [List.cons_append, List.nil_append, w_var, t_var, w_int, w_str, w_bl, w_non, w_gl, w_bin, w_neg, t_cmp, w_cmp, t_chain, w_chain, t_isC, w_isC, w_isi, t_isi, t_bop1, t_bop, w_bop1, w_bop, t_nt, w_nt, w_ite, t_ite, w_nil, w_cons, a_tup, w_fz, w_mu, a_disp, a_comp, w_ofSeq, w_call, w_prim, w_ix, w_sl, w_rev, w_pop, w_popAt, w_app, w_att, w_prop, w_mk, e_nop, e_int, e_var, e_bin, i_seq, a_rng, rngA_int, a_rng2, rngB_int, a_zip, zipA_some, a_enum, enA_some, src_tsI, src_lsI, t_call, t_prim, tru_bl, opt_some, t_nop, List.getElem?_cons_zero, List.getElem?_cons_succ, setTg, setTgs, List.set_cons_zero, List.set_cons_succ, wp_ok, wipeE, len0, len1, len2, len3, len4, len5, len6, len7, len8, len9, len10, if_true, if_false, Bool.false_eq_true, eq_int, ne_int, gt_int, lt_int', le_int', ge_int', add_int, sub_int, abs_int, int_int, Option.map_some, src_lst, src_tup, ix_t0, ix_t1, ix_t2, ix_t3, ix_l0, ix_l1, ix_l2, is_non, and_true, true_and, w_minD, w_cut, ft0, ft1, ft2, ft3, ix_pr0, ix_pr1, tup_ints, is_false0, Bool.not_true, Bool.not_false])
          simp
        · simp only [Bool.not_true]
          rw [kI_f, List.nil_append, q_ret]
          obtain ⟨i, rfl, -, -⟩ := inB_int h0
          obtain ⟨j, rfl, -, -⟩ := inB_int h1
          (try simp only [List.cons_append, List.nil_append, w_var, t_var, w_int, w_str, w_bl, w_non, w_gl, w_bin, w_neg, t_cmp, w_cmp, t_chain, w_chain, t_isC, w_isC, w_isi, t_isi, t_bop1, t_bop, w_bop1, w_bop, t_nt, w_nt, w_ite, t_ite, w_nil, w_cons, a_tup, w_fz, w_mu, a_disp, a_comp, w_ofSeq, w_call, w_prim, w_ix, w_sl, w_rev, w_pop, w_popAt, w_app, w_att, w_prop, w_mk, e_nop, e_int, e_var, e_bin, i_seq, a_rng, rngA_int, a_rng2, rngB_int, a_zip, zipA_some, a_enum, enA_some, src_tsI, src_lsI, t_call, t_prim, tru_bl, opt_some, t_nop, List.getElem?_cons_zero, List.getElem?_cons_succ, setTg, setTgs, List.set_cons_zero, List.set_cons_succ, wp_ok, wipeE, len0, len1, len2, len3, len4, len5, len6, len7, len8, len9, len10, if_true, if_false, Bool.false_eq_true, eq_int, ne_int, gt_int, lt_int', le_int', ge_int', add_int, sub_int, abs_int, int_int, Option.map_some, src_lst, src_tup, ix_t0, ix_t1, ix_t2, ix_t3, ix_l0, ix_l1, ix_l2, is_non, and_true, true_and, w_minD, w_cut, ft0, ft1, ft2, ft3, ix_pr0, ix_pr1, tup_ints, is_false0, Bool.not_true, Bool.not_false, x0, x1])
          simp
          rw [Bool.eq_iff_iff]
          simp
abbrev S147c (m : FM) : Prop := ∀ (S : Sto) (t : Tv) (n k : Nat), Tv.rOk k t = true → n ≤ 1000 → m [.int n, t] S = .ok (mapErr n t) S
theorem mapErr_2 {n : Nat} {t : Tv} (h : lenB 2 2 t = false) : mapErr n t = .tup [.int (-1), .str "map"] := by
  unfold mapErr
  split
  · cases h
  · rfl
theorem mapErr_a {n : Nat} {a b : Tv} (h : inB 2 6 a = false) : mapErr n (.tup [a, b]) = .tup [.int (-1), .str "map"] := by
  unfold mapErr
  split
  · rename_i P rs e
    injection e with e
    injection e with e1 e2
    subst e1
    rw [if_neg (fun z => by
      simp only [inB] at h
      rw [decide_eq_true z.1.1, decide_eq_true z.1.2] at h
      cases h)]
  · rfl
theorem mapErr_b {n : Nat} {P : Int} {b : Tv} (h : lenB 0 12 b = false) : mapErr n (.tup [.int P, b]) = .tup [.int (-1), .str "map"] := by
  unfold mapErr
  split
  · rename_i P rs e
    injection e with e
    injection e with e1 e2
    injection e2 with e2 e3
    subst e2
    rw [if_neg (fun z => by
      simp only [lenB] at h
      rw [decide_eq_true (by omega), decide_eq_true (by omega)] at h
      cases h)]
  · rfl
theorem lenB_tup {lo hi : Int} {t : Tv} (h : lenB lo hi t = true) : ∃ ts, t = .tup ts ∧ lo ≤ ts.length ∧ (ts.length : Int) ≤ hi := by
  cases t with
  | tup ts =>
    unfold lenB at h
    rw [Bool.and_eq_true] at h
    exact ⟨ts, rfl, of_decide_eq_true h.1, of_decide_eq_true h.2⟩
  | _ => cases h
theorem mapErr_ok {n : Nat} {P : Int} {rs : List Tv} (h1 : 2 ≤ P) (h2 : P ≤ 6) (h3 : rs.length ≤ 12) : mapErr n (.tup [.int P, .tup rs]) = firstB (roadB n P) "road" 0 rs := by
  show (if (2 ≤ P ∧ P ≤ 6) ∧ rs.length ≤ 12 then _ else _) = _
  rw [if_pos ⟨⟨h1, h2⟩, h3⟩]
/-- the roads, one behind the other -/
theorem roads_for {cf : Nat → FM} {i : Nat} {v : Tv} {n : Nat} {P : Int} {rs : List Tv} {S : Sto} {D : Po} (hc : ∀ t ∈ rs, ∀ S, cf i [.int n, .int P, t] S = .ok (.bl (roadB n P t)) S) (hv : ∀ S, ixV S v (.int 0) = some (.int P)) {j2 j3 : Option Tv} {bk ct : Env → Sto → Prop}
    (q : D.rt (firstB (roadB n P) "road" 0 rs) S) :
    (forL [] (.tup [.v 2, .v 3]) (exs cf Fu [
        .ifS (.nt (.call i [(.var 0), (.ix (.var 1) (.int 0)), (.var 3)]))
          [
            .ret (.tup [(.var 2), (.str "road")])]
          []]) (enumT 0 rs) [some (.int n), some v, j2, j3] S).wp { nx := kR cf Fu [.ret .non] D, rt := D.rt, bk := bk, ct := ct } := by
  rw [show enumT 0 rs = enumT ((0 : Nat) : Int) rs from rfl, enum_ts]
  refine for_on (fun _ r env S' => S' = S ∧ ∃ (j2 j3 : Option Tv) (j : Nat) (l : List Tv), env = [some (.int n), some v, j2, j3] ∧ r = enumP j l ∧ firstB (roadB n P) "road" j l = firstB (roadB n P) "road" 0 rs) (fun _ _ _ _ _ => rfl) ?_ ?_
    ⟨rfl, _, _, 0, rs, rfl, rfl, rfl⟩
  · rintro dn x r env S' hx ⟨rfl, j2, j3, j, l, rfl, hr, hf⟩
    have xt := hc x.2 (enumP_sub (ts := rs) (j := 0) (by rw [hx]; simp))
    cases l with
    | nil => cases hr
    | cons w l =>
      simp only [enumP, List.cons.injEq] at hr
      obtain ⟨rfl, rfl⟩ := hr
      have xw : ∀ S, cf i [.int n, .int P, w] S = .ok (.bl (roadB n P w)) S := xt
      (try simp only [List.cons_append, List.nil_append, w_var, t_var, w_int, w_str, w_bl, w_non, w_gl, w_bin, w_neg, t_cmp, w_cmp, t_chain, w_chain, t_isC, w_isC, w_isi, t_isi, t_bop1, t_bop, w_bop1, w_bop, t_nt, w_nt, w_ite, t_ite, w_nil, w_cons, a_tup, w_fz, w_mu, a_disp, a_comp, w_ofSeq, w_call, w_prim, w_ix, w_sl, w_rev, w_pop, w_popAt, w_app, w_att, w_prop, w_mk, e_nop, e_int, e_var, e_bin, i_seq, a_rng, rngA_int, a_rng2, rngB_int, a_zip, zipA_some, a_enum, enA_some, src_tsI, src_lsI, t_call, t_prim, tru_bl, opt_some, t_nop, List.getElem?_cons_zero, List.getElem?_cons_succ, setTg, setTgs, List.set_cons_zero, List.set_cons_succ, wp_ok, wipeE, len0, len1, len2, len3, len4, len5, len6, len7, len8, len9, len10, if_true, if_false, Bool.false_eq_true, eq_int, ne_int, gt_int, lt_int', le_int', ge_int', add_int, sub_int, abs_int, int_int, Option.map_some, src_lst, src_tup, ix_t0, ix_t1, ix_t2, ix_t3, ix_l0, ix_l1, ix_l2, is_non, and_true, true_and, w_minD, w_cut, ft0, ft1, ft2, ft3, ix_pr0, ix_pr1, tup_ints, is_false0, Bool.not_true, Bool.not_false])
      rw [q_if]
      (try simp only [List.cons_append, List.nil_append, w_var, t_var, w_int, w_str, w_bl, w_non, w_gl, w_bin, w_neg, t_cmp, w_cmp, t_chain, w_chain, t_isC, w_isC, w_isi, t_isi, t_bop1, t_bop, w_bop1, w_bop, t_nt, w_nt, w_ite, t_ite, w_nil, w_cons, a_tup, w_fz, w_mu, a_disp, a_comp, w_ofSeq, w_call, w_prim, w_ix, w_sl, w_rev, w_pop, w_popAt, w_app, w_att, w_prop, w_mk, e_nop, e_int, e_var, e_bin, i_seq, a_rng, rngA_int, a_rng2, rngB_int, a_zip, zipA_some, a_enum, enA_some, src_tsI, src_lsI, t_call, t_prim, tru_bl, opt_some, t_nop, List.getElem?_cons_zero, List.getElem?_cons_succ, setTg, setTgs, List.set_cons_zero, List.set_cons_succ, wp_ok, wipeE, len0, len1, len2, len3, len4, len5, len6, len7, len8, len9, len10, if_true, if_false, Bool.false_eq_true, eq_int, ne_int, gt_int, lt_int', le_int', ge_int', add_int, sub_int, abs_int, int_int, Option.map_some, src_lst, src_tup, ix_t0, ix_t1, ix_t2, ix_t3, ix_l0, ix_l1, ix_l2, is_non, and_true, true_and, w_minD, w_cut, ft0, ft1, ft2, ft3, ix_pr0, ix_pr1, tup_ints, is_false0, Bool.not_true, Bool.not_false, hv, xw])
      cases hw : roadB n P w
      · simp only [Bool.not_false]
        rw [kI_t]
        simp only [List.cons_append, List.nil_append]
        rw [q_ret]
        (try simp only [List.cons_append, List.nil_append, w_var, t_var, w_int, w_str, w_bl, w_non, w_gl, w_bin, w_neg, t_cmp, w_cmp, t_chain, w_chain, t_isC, w_isC, w_isi, t_isi, t_bop1, t_bop, w_bop1, w_bop, t_nt, w_nt, w_ite, t_ite, w_nil, w_cons, a_tup, w_fz, w_mu, a_disp, a_comp, w_ofSeq, w_call, w_prim, w_ix, w_sl, w_rev, w_pop, w_popAt, w_app, w_att, w_prop, w_mk, e_nop, e_int, e_var, e_bin, i_seq, a_rng, rngA_int, a_rng2, rngB_int, a_zip, zipA_some, a_enum, enA_some, src_tsI, src_lsI, t_call, t_prim, tru_bl, opt_some, t_nop, List.getElem?_cons_zero, List.getElem?_cons_succ, setTg, setTgs, List.set_cons_zero, List.set_cons_succ, wp_ok, wipeE, len0, len1, len2, len3, len4, len5, len6, len7, len8, len9, len10, if_true, if_false, Bool.false_eq_true, eq_int, ne_int, gt_int, lt_int', le_int', ge_int', add_int, sub_int, abs_int, int_int, Option.map_some, src_lst, src_tup, ix_t0, ix_t1, ix_t2, ix_t3, ix_l0, ix_l1, ix_l2, is_non, and_true, true_and, w_minD, w_cut, ft0, ft1, ft2, ft3, ix_pr0, ix_pr1, tup_ints, is_false0, Bool.not_true, Bool.not_false])
        rw [← hf] at q
        have e : firstB (roadB n P) "road" j (w :: l) = .tup [.int (j : Int), .str "road"] := by
          show (if roadB n P w = true then _ else _) = _
          rw [hw]
          rfl
        rw [e] at q
        exact q
      · simp only [Bool.not_true]
        rw [kI_f, List.nil_append, exs_nil]
        refine ⟨rfl, _, _, j + 1, l, rfl, rfl, ?_⟩
        rw [← hf]
        show _ = if roadB n P w = true then _ else _
        rw [hw, if_pos rfl]
  · rintro env S' ⟨rfl, j2, j3, j, l, rfl, hr, hf⟩
    cases l with
    | cons w l => cases hr
    | nil =>
      show kR _ _ _ _ _ _
      rw [kR_eq, q_ret]
      (try simp only [List.cons_append, List.nil_append, w_var, t_var, w_int, w_str, w_bl, w_non, w_gl, w_bin, w_neg, t_cmp, w_cmp, t_chain, w_chain, t_isC, w_isC, w_isi, t_isi, t_bop1, t_bop, w_bop1, w_bop, t_nt, w_nt, w_ite, t_ite, w_nil, w_cons, a_tup, w_fz, w_mu, a_disp, a_comp, w_ofSeq, w_call, w_prim, w_ix, w_sl, w_rev, w_pop, w_popAt, w_app, w_att, w_prop, w_mk, e_nop, e_int, e_var, e_bin, i_seq, a_rng, rngA_int, a_rng2, rngB_int, a_zip, zipA_some, a_enum, enA_some, src_tsI, src_lsI, t_call, t_prim, tru_bl, opt_some, t_nop, List.getElem?_cons_zero, List.getElem?_cons_succ, setTg, setTgs, List.set_cons_zero, List.set_cons_succ, wp_ok, wipeE, len0, len1, len2, len3, len4, len5, len6, len7, len8, len9, len10, if_true, if_false, Bool.false_eq_true, eq_int, ne_int, gt_int, lt_int', le_int', ge_int', add_int, sub_int, abs_int, int_int, Option.map_some, src_lst, src_tup, ix_t0, ix_t1, ix_t2, ix_t3, ix_l0, ix_l1, ix_l2, is_non, and_true, true_and, w_minD, w_cut, ft0, ft1, ft2, ft3, ix_pr0, ix_pr1, tup_ints, is_false0, Bool.not_true, Bool.not_false])
      rw [← hf] at q
      exact q
theorem ok147c {cf : Nat → FM} (d34 : S34c (cf 34)) (d41 : S41c (cf 41)) (d146 : S146c (cf 146)) : S147c (runD cf xMapError) := fun S t n k h hn => by
  refine run_eq rfl ?_
  show (exs cf Fu xMapError.body [some (.int n), some t, none, none] S).wp _
  unfold xMapError
  rw [q_if]
  (try simp only [List.cons_append, List.nil_append, w_var, t_var, w_int, w_str, w_bl, w_non, w_gl, w_bin, w_neg, t_cmp, w_cmp, t_chain, w_chain, t_isC, w_isC, w_isi, t_isi, t_bop1, t_bop, w_bop1, w_bop, t_nt, w_nt, w_ite, t_ite, w_nil, w_cons, a_tup, w_fz, w_mu, a_disp, a_comp, w_ofSeq, w_call, w_prim, w_ix, w_sl, w_rev, w_pop, w_popAt, w_app, w_att, w_prop, w_mk, e_nop, e_int, e_var, e_bin, i_seq, a_rng, rngA_int, a_rng2, rngB_int, a_zip, zipA_some, a_enum, enA_some, src_tsI, src_lsI, t_call, t_prim, tru_bl, opt_some, t_nop, List.getElem?_cons_zero, List.getElem?_cons_succ, setTg, setTgs, List.set_cons_zero, List.set_cons_succ, wp_ok, wipeE, len0, len1, len2, len3, len4, len5, len6, len7, len8, len9, len10, if_true, if_false, Bool.false_eq_true, eq_int, ne_int, gt_int, lt_int', le_int', ge_int', add_int, sub_int, abs_int, int_int, Option.map_some, src_lst, src_tup, ix_t0, ix_t1, ix_t2, ix_t3, ix_l0, ix_l1, ix_l2, is_non, and_true, true_and, w_minD, w_cut, ft0, ft1, ft2, ft3, ix_pr0, ix_pr1, tup_ints, is_false0, Bool.not_true, Bool.not_false, d41 _ t 2 2 k h])
  cases hb : lenB 2 2 t
  · simp only [Bool.not_false, Bool.true_eq_false, if_false]
    rw [kI_t]
    simp only [List.cons_append, List.nil_append]
    rw [q_ret]
    (try simp only [List.cons_append, List.nil_append, w_var, t_var, w_int, w_str, w_bl, w_non, w_gl, w_bin, w_neg, t_cmp, w_cmp, t_chain, w_chain, t_isC, w_isC, w_isi, t_isi, t_bop1, t_bop, w_bop1, w_bop, t_nt, w_nt, w_ite, t_ite, w_nil, w_cons, a_tup, w_fz, w_mu, a_disp, a_comp, w_ofSeq, w_call, w_prim, w_ix, w_sl, w_rev, w_pop, w_popAt, w_app, w_att, w_prop, w_mk, e_nop, e_int, e_var, e_bin, i_seq, a_rng, rngA_int, a_rng2, rngB_int, a_zip, zipA_some, a_enum, enA_some, src_tsI, src_lsI, t_call, t_prim, tru_bl, opt_some, t_nop, List.getElem?_cons_zero, List.getElem?_cons_succ, setTg, setTgs, List.set_cons_zero, List.set_cons_succ, wp_ok, wipeE, len0, len1, len2, len3, len4, len5, len6, len7, len8, len9, len10, if_true, if_false, Bool.false_eq_true, eq_int, ne_int, gt_int, lt_int', le_int', ge_int', add_int, sub_int, abs_int, int_int, Option.map_some, src_lst, src_tup, ix_t0, ix_t1, ix_t2, ix_t3, ix_l0, ix_l1, ix_l2, is_non, and_true, true_and, w_minD, w_cut, ft0, ft1, ft2, ft3, ix_pr0, ix_pr1, tup_ints, is_false0, Bool.not_true, Bool.not_false, mapErr_2 hb])
  · obtain ⟨a, b, rfl⟩ := lenB_2 hb
    obtain ⟨j, rfl, ht⟩ := rOk_tup h
    have ha := ht a (by simp)
    have hb' := ht b (by simp)
    have x0 : ∀ S, ixV S (.tup [a, b]) (.int 0) = some a := fun S => rfl
    have x1 : ∀ S, ixV S (.tup [a, b]) (.int 1) = some b := fun S => rfl
    (try simp only [List.cons_append, List.nil_append, w_var, t_var, w_int, w_str, w_bl, w_non, w_gl, w_bin, w_neg, t_cmp, w_cmp, t_chain, w_chain, t_isC, w_isC, w_isi, t_isi, t_bop1, t_bop, w_bop1, w_bop, t_nt, w_nt, w_ite, t_ite, w_nil, w_cons, a_tup, w_fz, w_mu, a_disp, a_comp, w_ofSeq, w_call, w_prim, w_ix, w_sl, w_rev, w_pop, w_popAt, w_app, w_att, w_prop, w_mk, e_nop, e_int, e_var, e_bin, i_seq, a_rng, rngA_int, a_rng2, rngB_int, a_zip, zipA_some, a_enum, enA_some, src_tsI, src_lsI, t_call, t_prim, tru_bl, opt_some, t_nop, List.getElem?_cons_zero, List.getElem?_cons_succ, setTg, setTgs, List.set_cons_zero, List.set_cons_succ, wp_ok, wipeE, len0, len1, len2, len3, len4, len5, len6, len7, len8, len9, len10, if_true, if_false, Bool.false_eq_true, eq_int, ne_int, gt_int, lt_int', le_int', ge_int', add_int, sub_int, abs_int, int_int, Option.map_some, src_lst, src_tup, ix_t0, ix_t1, ix_t2, ix_t3, ix_l0, ix_l1, ix_l2, is_non, and_true, true_and, w_minD, w_cut, ft0, ft1, ft2, ft3, ix_pr0, ix_pr1, tup_ints, is_false0, Bool.not_true, Bool.not_false, Bool.not_true, x0, d34 _ a 2 6 j ha])
    cases h0 : inB 2 6 a
    · simp only [Bool.not_false, Bool.true_eq_false, if_false]
      rw [kI_t]
      simp only [List.cons_append, List.nil_append]
      rw [q_ret]
      (try simp only [List.cons_append, List.nil_append, w_var, t_var, w_int, w_str, w_bl, w_non, w_gl, w_bin, w_neg, t_cmp, w_cmp, t_chain, w_chain, t_isC, w_isC, w_isi, t_isi, t_bop1, t_bop, w_bop1, w_bop, t_nt, w_nt, w_ite, t_ite, w_nil, w_cons, a_tup, w_fz, w_mu, a_disp, a_comp, w_ofSeq, w_call, w_prim, w_ix, w_sl, w_rev, w_pop, w_popAt, w_app, w_att, w_prop, w_mk, e_nop, e_int, e_var, e_bin, i_seq, a_rng, rngA_int, a_rng2, rngB_int, a_zip, zipA_some, a_enum, enA_some, src_tsI, src_lsI, t_call, t_prim, tru_bl, opt_some, t_nop, List.getElem?_cons_zero, List.getElem?_cons_succ, setTg, setTgs, List.set_cons_zero, List.set_cons_succ, wp_ok, wipeE, len0, len1, len2, len3, len4, len5, len6, len7, len8, len9, len10, if_true, if_false, Bool.false_eq_true, eq_int, ne_int, gt_int, lt_int', le_int', ge_int', add_int, sub_int, abs_int, int_int, Option.map_some, src_lst, src_tup, ix_t0, ix_t1, ix_t2, ix_t3, ix_l0, ix_l1, ix_l2, is_non, and_true, true_and, w_minD, w_cut, ft0, ft1, ft2, ft3, ix_pr0, ix_pr1, tup_ints, is_false0, Bool.not_true, Bool.not_false, mapErr_a (b := b) h0])
    · (try simp only [List.cons_append, List.nil_append, w_var, t_var, w_int, w_str, w_bl, w_non, w_gl, w_bin, w_neg, t_cmp, w_cmp, t_chain, w_chain, t_isC, w_isC, w_isi, t_isi, t_bop1, t_bop, w_bop1, w_bop, t_nt, w_nt, w_ite, t_ite, w_nil, w_cons, a_tup, w_fz, w_mu, a_disp, a_comp, w_ofSeq, w_call, w_prim, w_ix, w_sl, w_rev, w_pop, w_popAt, w_app, w_att, w_prop, w_mk, e_nop, e_int, e_var, e_bin, i_seq, a_rng, rngA_int, a_rng2, rngB_int, a_zip, zipA_some, a_enum, enA_some, src_tsI, src_lsI, t_call, t_prim, tru_bl, opt_some, t_nop, List.getElem?_cons_zero, List.getElem?_cons_succ, setTg, setTgs, List.set_cons_zero, List.set_cons_succ, wp_ok, wipeE, len0, len1, len2, len3, len4, len5, len6, len7, len8, len9, len10, if_true, if_false, Bool.false_eq_true, eq_int, ne_int, gt_int, lt_int', le_int', ge_int', add_int, sub_int, abs_int, int_int, Option.map_some, src_lst, src_tup, ix_t0, ix_t1, ix_t2, ix_t3, ix_l0, ix_l1, ix_l2, is_non, and_true, true_and, w_minD, w_cut, ft0, ft1, ft2, ft3, ix_pr0, ix_pr1, tup_ints, is_false0, Bool.not_true, Bool.not_false, Bool.not_true, x1, d41 _ b 0 12 j hb'])
      obtain ⟨P, rfl, p1, p2⟩ := inB_int h0
      cases h1 : lenB 0 12 b
      · simp only [Bool.not_false, Bool.true_eq_false, if_false]
        rw [kI_t]
        simp only [List.cons_append, List.nil_append]
        rw [q_ret]
        (try simp only [List.cons_append, List.nil_append, w_var, t_var, w_int, w_str, w_bl, w_non, w_gl, w_bin, w_neg, t_cmp, w_cmp, t_chain, w_chain, t_isC, w_isC, w_isi, t_isi, t_bop1, t_bop, w_bop1, w_bop, t_nt, w_nt, w_ite, t_ite, w_nil, w_cons, a_tup, w_fz, w_mu, a_disp, a_comp, w_ofSeq, w_call, w_prim, w_ix, w_sl, w_rev, w_pop, w_popAt, w_app, w_att, w_prop, w_mk, e_nop, e_int, e_var, e_bin, i_seq, a_rng, rngA_int, a_rng2, rngB_int, a_zip, zipA_some, a_enum, enA_some, src_tsI, src_lsI, t_call, t_prim, tru_bl, opt_some, t_nop, List.getElem?_cons_zero, List.getElem?_cons_succ, setTg, setTgs, List.set_cons_zero, List.set_cons_succ, wp_ok, wipeE, len0, len1, len2, len3, len4, len5, len6, len7, len8, len9, len10, if_true, if_false, Bool.false_eq_true, eq_int, ne_int, gt_int, lt_int', le_int', ge_int', add_int, sub_int, abs_int, int_int, Option.map_some, src_lst, src_tup, ix_t0, ix_t1, ix_t2, ix_t3, ix_l0, ix_l1, ix_l2, is_non, and_true, true_and, w_minD, w_cut, ft0, ft1, ft2, ft3, ix_pr0, ix_pr1, tup_ints, is_false0, Bool.not_true, Bool.not_false, mapErr_b (P := P) h1])
      · simp only [Bool.not_true]
        obtain ⟨rs, rfl, -, r12⟩ := lenB_tup h1
        obtain ⟨jj, rfl, hr⟩ := rOk_tup hb'
        rw [kI_f, List.nil_append, q_for]
        (try simp only [List.cons_append, List.nil_append, w_var, t_var, w_int, w_str, w_bl, w_non, w_gl, w_bin, w_neg, t_cmp, w_cmp, t_chain, w_chain, t_isC, w_isC, w_isi, t_isi, t_bop1, t_bop, w_bop1, w_bop, t_nt, w_nt, w_ite, t_ite, w_nil, w_cons, a_tup, w_fz, w_mu, a_disp, a_comp, w_ofSeq, w_call, w_prim, w_ix, w_sl, w_rev, w_pop, w_popAt, w_app, w_att, w_prop, w_mk, e_nop, e_int, e_var, e_bin, i_seq, a_rng, rngA_int, a_rng2, rngB_int, a_zip, zipA_some, a_enum, enA_some, src_tsI, src_lsI, t_call, t_prim, tru_bl, opt_some, t_nop, List.getElem?_cons_zero, List.getElem?_cons_succ, setTg, setTgs, List.set_cons_zero, List.set_cons_succ, wp_ok, wipeE, len0, len1, len2, len3, len4, len5, len6, len7, len8, len9, len10, if_true, if_false, Bool.false_eq_true, eq_int, ne_int, gt_int, lt_int', le_int', ge_int', add_int, sub_int, abs_int, int_int, Option.map_some, src_lst, src_tup, ix_t0, ix_t1, ix_t2, ix_t3, ix_l0, ix_l1, ix_l2, is_non, and_true, true_and, w_minD, w_cut, ft0, ft1, ft2, ft3, ix_pr0, ix_pr1, tup_ints, is_false0, Bool.not_true, Bool.not_false, x1])
        rw [kF_eq]
        refine roads_for (D := { nx := fun _ _ => False, rt := fun t S' => S' = S ∧ t = mapErr n (Tv.tup [Tv.int P, Tv.tup rs]) }) (fun t ht S => d146 S t n jj P (hr t ht) hn) x0 ?_
        exact ⟨rfl, (mapErr_ok p1 p2 (by omega)).symm⟩
end Mp
namespace Mp
/-! ### the law's own look at a map -/
abbrev S159 (m : FM) : Prop := S34c m
theorem ok159 {cf : Nat → FM} : S159 (runD cf xLawIsInt) := ok34c
def xLawIsRoad : Df := ⟨3, 3,
  [
    .ifS (.bop false [(.nt (.isi (.var 2) .tuple)), (.cmp .ne (.prim .len [(.var 2)]) (.int 3)), (.nt (.call 120 [(.var 0), (.ix (.var 2) (.int 2))])), (.cmp .ge (.prim .max [(.ix (.var 2) (.int 2))]) (.bin .pow (.int 10) (.int 60)))])
      [
        .ret (.bl false)]
      [],
    .ifS (.bop false [(.nt (.call 159 [(.ix (.var 2) (.int 0)), (.int 0), (.bin .sub (.var 1) (.int 1))])), (.nt (.call 159 [(.ix (.var 2) (.int 1)), (.int 0), (.bin .sub (.var 1) (.int 1))]))])
      [
        .ret (.bl false)]
      [],
    .ret (.cmp .ne (.ix (.var 2) (.int 0)) (.ix (.var 2) (.int 1)))]⟩
def xLawMapWord : Df := ⟨4, 2,
  [
    .ifS (.bop false [(.nt (.isi (.var 1) .tuple)), (.cmp .ne (.prim .len [(.var 1)]) (.int 2)), (.nt (.call 159 [(.ix (.var 1) (.int 0)), (.int 2), (.int 6)]))])
      [
        .ret (.tup [(.neg (.int 1)), (.str "map")])]
      [],
    .ifS (.bop false [(.nt (.isi (.ix (.var 1) (.int 1)) .tuple)), (.cmp .gt (.prim .len [(.ix (.var 1) (.int 1))]) (.int 12))])
      [
        .ret (.tup [(.neg (.int 1)), (.str "map")])]
      [],
    .forS (.tup [(.v 2), (.v 3)]) (.enum (.ix (.var 1) (.int 1)))
      [
        .ifS (.nt (.call 160 [(.var 0), (.ix (.var 1) (.int 0)), (.var 3)]))
          [
            .ret (.tup [(.var 2), (.str "road")])]
          []],
    .ret .non]⟩
theorem ne_len {a b : Nat} (h : a ≠ b) : (!((a : Int) == (b : Int))) = true := by
  rw [Bool.not_eq_true', beq_eq_false_iff_ne]
  omega
theorem lenB_at {n : Nat} {ts : List Tv} : lenB n n (.tup ts) = decide (ts.length = n) := by
  unfold lenB
  rw [Bool.eq_iff_iff, Bool.and_eq_true, decide_eq_true_iff, decide_eq_true_iff, decide_eq_true_iff]
  omega
abbrev S160 (m : FM) : Prop := ∀ (S : Sto) (t : Tv) (n k : Nat) (P : Int), Tv.rOk k t = true → 1 ≤ n → n ≤ 1000 → m [.int n, .int P, t] S = .ok (.bl (roadB n P t)) S
theorem ok160 {cf : Nat → FM} (d120 : S120c (cf 120)) (d159 : S159 (cf 159)) : S160 (runD cf xLawIsRoad) := fun S t n k P h n1 hn => by
  refine run_eq rfl ?_
  show (exs cf Fu xLawIsRoad.body [some (.int n), some (.int P), some t] S).wp _
  unfold xLawIsRoad
  have i1 : ∀ S, isiV .tuple S t = some (isT t) := fun S => isi_T h
  have no : ∀ (X : List Sx) (D : Po) (env : Env) (S : Sto), D.rt (.bl false) S → (exs cf Fu ([.ret (.bl false)] ++ X) env S).wp D := fun X D env S q => by
    simp only [List.cons_append, List.nil_append]
    rw [q_ret]
    (try simp only [List.cons_append, List.nil_append, w_var, t_var, w_int, w_str, w_bl, w_non, w_gl, w_bin, w_neg, t_cmp, w_cmp, t_chain, w_chain, t_isC, w_isC, w_isi, t_isi, t_bop1, t_bop, w_bop1, w_bop, t_nt, w_nt, w_ite, t_ite, w_nil, w_cons, a_tup, w_fz, w_mu, a_disp, a_comp, w_ofSeq, w_call, w_prim, w_ix, w_sl, w_rev, w_pop, w_popAt, w_app, w_att, w_prop, w_mk, e_nop, e_int, e_var, e_bin, i_seq, a_rng, rngA_int, a_rng2, rngB_int, a_zip, zipA_some, a_enum, enA_some, src_tsI, src_lsI, t_call, t_prim, tru_bl, opt_some, t_nop, List.getElem?_cons_zero, List.getElem?_cons_succ, setTg, setTgs, List.set_cons_zero, List.set_cons_succ, wp_ok, wipeE, len0, len1, len2, len3, len4, len5, len6, len7, len8, len9, len10, if_true, if_false, Bool.false_eq_true, eq_int, ne_int, gt_int, lt_int', le_int', ge_int', add_int, sub_int, abs_int, int_int, Option.map_some, src_lst, src_tup, ix_t0, ix_t1, ix_t2, ix_t3, ix_l0, ix_l1, ix_l2, is_non, and_true, true_and, w_minD, w_cut, ft0, ft1, ft2, ft3, ix_pr0, ix_pr1, tup_ints, is_false0, Bool.not_true, Bool.not_false])
    exact q
  rw [q_if]
  (try simp only [List.cons_append, List.nil_append, w_var, t_var, w_int, w_str, w_bl, w_non, w_gl, w_bin, w_neg, t_cmp, w_cmp, t_chain, w_chain, t_isC, w_isC, w_isi, t_isi, t_bop1, t_bop, w_bop1, w_bop, t_nt, w_nt, w_ite, t_ite, w_nil, w_cons, a_tup, w_fz, w_mu, a_disp, a_comp, w_ofSeq, w_call, w_prim, w_ix, w_sl, w_rev, w_pop, w_popAt, w_app, w_att, w_prop, w_mk, e_nop, e_int, e_var, e_bin, i_seq, a_rng, rngA_int, a_rng2, rngB_int, a_zip, zipA_some, a_enum, enA_some, src_tsI, src_lsI, t_call, t_prim, tru_bl, opt_some, t_nop, List.getElem?_cons_zero, List.getElem?_cons_succ, setTg, setTgs, List.set_cons_zero, List.set_cons_succ, wp_ok, wipeE, len0, len1, len2, len3, len4, len5, len6, len7, len8, len9, len10, if_true, if_false, Bool.false_eq_true, eq_int, ne_int, gt_int, lt_int', le_int', ge_int', add_int, sub_int, abs_int, int_int, Option.map_some, src_lst, src_tup, ix_t0, ix_t1, ix_t2, ix_t3, ix_l0, ix_l1, ix_l2, is_non, and_true, true_and, w_minD, w_cut, ft0, ft1, ft2, ft3, ix_pr0, ix_pr1, tup_ints, is_false0, Bool.not_true, Bool.not_false, i1])
  by_cases c0 : ∃ ts, t = .tup ts
  · obtain ⟨ts, rfl⟩ := c0
    (try simp only [List.cons_append, List.nil_append, w_var, t_var, w_int, w_str, w_bl, w_non, w_gl, w_bin, w_neg, t_cmp, w_cmp, t_chain, w_chain, t_isC, w_isC, w_isi, t_isi, t_bop1, t_bop, w_bop1, w_bop, t_nt, w_nt, w_ite, t_ite, w_nil, w_cons, a_tup, w_fz, w_mu, a_disp, a_comp, w_ofSeq, w_call, w_prim, w_ix, w_sl, w_rev, w_pop, w_popAt, w_app, w_att, w_prop, w_mk, e_nop, e_int, e_var, e_bin, i_seq, a_rng, rngA_int, a_rng2, rngB_int, a_zip, zipA_some, a_enum, enA_some, src_tsI, src_lsI, t_call, t_prim, tru_bl, opt_some, t_nop, List.getElem?_cons_zero, List.getElem?_cons_succ, setTg, setTgs, List.set_cons_zero, List.set_cons_succ, wp_ok, wipeE, len0, len1, len2, len3, len4, len5, len6, len7, len8, len9, len10, if_true, if_false, Bool.false_eq_true, eq_int, ne_int, gt_int, lt_int', le_int', ge_int', add_int, sub_int, abs_int, int_int, Option.map_some, src_lst, src_tup, ix_t0, ix_t1, ix_t2, ix_t3, ix_l0, ix_l1, ix_l2, is_non, and_true, true_and, w_minD, w_cut, ft0, ft1, ft2, ft3, ix_pr0, ix_pr1, tup_ints, is_false0, Bool.not_true, Bool.not_false, show isT (.tup ts) = true from rfl, len_tup])
    cases hb : lenB 3 3 (.tup ts)
    · have e3 : ts.length ≠ 3 := fun z => by
        have := lenB_at (n := 3) (ts := ts)
        rw [decide_eq_true z] at this
        rw [show lenB 3 3 (.tup ts) = true from this] at hb
        cases hb
      have e : (!((ts.length : Int) == 3)) = true := ne_len (b := 3) e3
      rw [e]
      simp only [Bool.true_eq_false, if_false]
      rw [kI_t]
      exact no _ _ _ _ ⟨rfl, by rw [roadB_no hb]⟩
    · obtain ⟨a, b, c, e⟩ := lenB_3 hb
      injection e with e
      subst e
      obtain ⟨j, rfl, ht⟩ := rOk_tup h
      have ha := ht a (by simp)
      have hb' := ht b (by simp)
      have hc := ht c (by simp)
      have x0 : ∀ S, ixV S (.tup [a, b, c]) (.int 0) = some a := fun S => rfl
      have x1 : ∀ S, ixV S (.tup [a, b, c]) (.int 1) = some b := fun S => rfl
      have x2 : ∀ S, ixV S (.tup [a, b, c]) (.int 2) = some c := fun S => rfl
      have e : (!((([a, b, c] : List Tv).length : Int) == 3)) = false := rfl
      rw [e]
      (try simp only [List.cons_append, List.nil_append, w_var, t_var, w_int, w_str, w_bl, w_non, w_gl, w_bin, w_neg, t_cmp, w_cmp, t_chain, w_chain, t_isC, w_isC, w_isi, t_isi, t_bop1, t_bop, w_bop1, w_bop, t_nt, w_nt, w_ite, t_ite, w_nil, w_cons, a_tup, w_fz, w_mu, a_disp, a_comp, w_ofSeq, w_call, w_prim, w_ix, w_sl, w_rev, w_pop, w_popAt, w_app, w_att, w_prop, w_mk, e_nop, e_int, e_var, e_bin, i_seq, a_rng, rngA_int, a_rng2, rngB_int, a_zip, zipA_some, a_enum, enA_some, src_tsI, src_lsI, t_call, t_prim, tru_bl, opt_some, t_nop, List.getElem?_cons_zero, List.getElem?_cons_succ, setTg, setTgs, List.set_cons_zero, List.set_cons_succ, wp_ok, wipeE, len0, len1, len2, len3, len4, len5, len6, len7, len8, len9, len10, if_true, if_false, Bool.false_eq_true, eq_int, ne_int, gt_int, lt_int', le_int', ge_int', add_int, sub_int, abs_int, int_int, Option.map_some, src_lst, src_tup, ix_t0, ix_t1, ix_t2, ix_t3, ix_l0, ix_l1, ix_l2, is_non, and_true, true_and, w_minD, w_cut, ft0, ft1, ft2, ft3, ix_pr0, ix_pr1, tup_ints, is_false0, Bool.not_true, Bool.not_false, x2, d120 _ c n j hc hn])
      rw [roadB_eq]
      have wno : wayB n c = false → (wayB n c && inB 0 (P - 1) a && inB 0 (P - 1) b && !decide (a = b)) = false := fun z => by rw [z]; rfl
      cases hw : wayL n c
      · have hz : wayB n c = false := by
          cases hq : wayB n c
          · rfl
          · rw [wayB_L hq] at hw; cases hw
        simp only [Bool.not_false, Bool.true_eq_false, if_false]
        rw [kI_t]
        exact no _ _ _ _ ⟨rfl, by rw [wno hz]⟩
      · obtain ⟨ns, rfl, wl, w0⟩ := wayL_of hw
        have wn : ns ≠ [] := fun z => by rw [z] at wl; simp at wl; omega
        have we := wayB_ints wl w0 wn
        (try simp only [List.cons_append, List.nil_append, w_var, t_var, w_int, w_str, w_bl, w_non, w_gl, w_bin, w_neg, t_cmp, w_cmp, t_chain, w_chain, t_isC, w_isC, w_isi, t_isi, t_bop1, t_bop, w_bop1, w_bop, t_nt, w_nt, w_ite, t_ite, w_nil, w_cons, a_tup, w_fz, w_mu, a_disp, a_comp, w_ofSeq, w_call, w_prim, w_ix, w_sl, w_rev, w_pop, w_popAt, w_app, w_att, w_prop, w_mk, e_nop, e_int, e_var, e_bin, i_seq, a_rng, rngA_int, a_rng2, rngB_int, a_zip, zipA_some, a_enum, enA_some, src_tsI, src_lsI, t_call, t_prim, tru_bl, opt_some, t_nop, List.getElem?_cons_zero, List.getElem?_cons_succ, setTg, setTgs, List.set_cons_zero, List.set_cons_succ, wp_ok, wipeE, len0, len1, len2, len3, len4, len5, len6, len7, len8, len9, len10, if_true, if_false, Bool.false_eq_true, eq_int, ne_int, gt_int, lt_int', le_int', ge_int', add_int, sub_int, abs_int, int_int, Option.map_some, src_lst, src_tup, ix_t0, ix_t1, ix_t2, ix_t3, ix_l0, ix_l1, ix_l2, is_non, and_true, true_and, w_minD, w_cut, ft0, ft1, ft2, ft3, ix_pr0, ix_pr1, tup_ints, is_false0, Bool.not_true, Bool.not_false, Bool.not_true, x2, max_tsI wn, pow_60])
        cases hg : decide (1000000000000000000000000000000000000000000000000000000000000 ≤ mostOf ns)
        · rw [hg] at we
          rw [kI_f, List.nil_append, q_if]
          (try simp only [List.cons_append, List.nil_append, w_var, t_var, w_int, w_str, w_bl, w_non, w_gl, w_bin, w_neg, t_cmp, w_cmp, t_chain, w_chain, t_isC, w_isC, w_isi, t_isi, t_bop1, t_bop, w_bop1, w_bop, t_nt, w_nt, w_ite, t_ite, w_nil, w_cons, a_tup, w_fz, w_mu, a_disp, a_comp, w_ofSeq, w_call, w_prim, w_ix, w_sl, w_rev, w_pop, w_popAt, w_app, w_att, w_prop, w_mk, e_nop, e_int, e_var, e_bin, i_seq, a_rng, rngA_int, a_rng2, rngB_int, a_zip, zipA_some, a_enum, enA_some, src_tsI, src_lsI, t_call, t_prim, tru_bl, opt_some, t_nop, List.getElem?_cons_zero, List.getElem?_cons_succ, setTg, setTgs, List.set_cons_zero, List.set_cons_succ, wp_ok, wipeE, len0, len1, len2, len3, len4, len5, len6, len7, len8, len9, len10, if_true, if_false, Bool.false_eq_true, eq_int, ne_int, gt_int, lt_int', le_int', ge_int', add_int, sub_int, abs_int, int_int, Option.map_some, src_lst, src_tup, ix_t0, ix_t1, ix_t2, ix_t3, ix_l0, ix_l1, ix_l2, is_non, and_true, true_and, w_minD, w_cut, ft0, ft1, ft2, ft3, ix_pr0, ix_pr1, tup_ints, is_false0, Bool.not_true, Bool.not_false, x0, x1, d159 _ a 0 (P - 1) j ha])
          have we : wayB n (tsI ns) = true := we
          rw [we]
          cases h0 : inB 0 (P - 1) a
          · simp only [Bool.not_false, Bool.true_eq_false, if_false]
            rw [kI_t]
            exact no _ _ _ _ ⟨rfl, rfl⟩
          · (try simp only [List.cons_append, List.nil_append, w_var, t_var, w_int, w_str, w_bl, w_non, w_gl, w_bin, w_neg, t_cmp, w_cmp, t_chain, w_chain, t_isC, w_isC, w_isi, t_isi, t_bop1, t_bop, w_bop1, w_bop, t_nt, w_nt, w_ite, t_ite, w_nil, w_cons, a_tup, w_fz, w_mu, a_disp, a_comp, w_ofSeq, w_call, w_prim, w_ix, w_sl, w_rev, w_pop, w_popAt, w_app, w_att, w_prop, w_mk, e_nop, e_int, e_var, e_bin, i_seq, a_rng, rngA_int, a_rng2, rngB_int, a_zip, zipA_some, a_enum, enA_some, src_tsI, src_lsI, t_call, t_prim, tru_bl, opt_some, t_nop, List.getElem?_cons_zero, List.getElem?_cons_succ, setTg, setTgs, List.set_cons_zero, List.set_cons_succ, wp_ok, wipeE, len0, len1, len2, len3, len4, len5, len6, len7, len8, len9, len10, if_true, if_false, Bool.false_eq_true, eq_int, ne_int, gt_int, lt_int', le_int', ge_int', add_int, sub_int, abs_int, int_int, Option.map_some, src_lst, src_tup, ix_t0, ix_t1, ix_t2, ix_t3, ix_l0, ix_l1, ix_l2, is_non, and_true, true_and, w_minD, w_cut, ft0, ft1, ft2, ft3, ix_pr0, ix_pr1, tup_ints, is_false0, Bool.not_true, Bool.not_false, Bool.not_true, x1, d159 _ b 0 (P - 1) j hb'])
            cases h1 : inB 0 (P - 1) b
            · simp only [Bool.not_false]
              rw [kI_t]
              exact no _ _ _ _ ⟨rfl, rfl⟩
            · simp only [Bool.not_true]
              rw [kI_f, List.nil_append, q_ret]
              obtain ⟨i, rfl, -, -⟩ := inB_int h0
              obtain ⟨j, rfl, -, -⟩ := inB_int h1
              (try simp only [List.cons_append, List.nil_append, w_var, t_var, w_int, w_str, w_bl, w_non, w_gl, w_bin, w_neg, t_cmp, w_cmp, t_chain, w_chain, t_isC, w_isC, w_isi, t_isi, t_bop1, t_bop, w_bop1, w_bop, t_nt, w_nt, w_ite, t_ite, w_nil, w_cons, a_tup, w_fz, w_mu, a_disp, a_comp, w_ofSeq, w_call, w_prim, w_ix, w_sl, w_rev, w_pop, w_popAt, w_app, w_att, w_prop, w_mk, e_nop, e_int, e_var, e_bin, i_seq, a_rng, rngA_int, a_rng2, rngB_int, a_zip, zipA_some, a_enum, enA_some, src_tsI, src_lsI, t_call, t_prim, tru_bl, opt_some, t_nop, List.getElem?_cons_zero, List.getElem?_cons_succ, setTg, setTgs, List.set_cons_zero, List.set_cons_succ, wp_ok, wipeE, len0, len1, len2, len3, len4, len5, len6, len7, len8, len9, len10, if_true, if_false, Bool.false_eq_true, eq_int, ne_int, gt_int, lt_int', le_int', ge_int', add_int, sub_int, abs_int, int_int, Option.map_some, src_lst, src_tup, ix_t0, ix_t1, ix_t2, ix_t3, ix_l0, ix_l1, ix_l2, is_non, and_true, true_and, w_minD, w_cut, ft0, ft1, ft2, ft3, ix_pr0, ix_pr1, tup_ints, is_false0, Bool.not_true, Bool.not_false, x0, x1])
              simp
              rw [Bool.eq_iff_iff]
              simp
        · rw [hg] at we
          have we : wayB n (tsI ns) = false := we
          rw [kI_t]
          exact no _ _ _ _ ⟨rfl, by rw [we]; rfl⟩
  · have e : roadB n P t = false := by
      cases t with
      | tup ts => exact absurd ⟨_, rfl⟩ c0
      | _ => rfl
    rw [not_tup c0]
    (try simp only [List.cons_append, List.nil_append, w_var, t_var, w_int, w_str, w_bl, w_non, w_gl, w_bin, w_neg, t_cmp, w_cmp, t_chain, w_chain, t_isC, w_isC, w_isi, t_isi, t_bop1, t_bop, w_bop1, w_bop, t_nt, w_nt, w_ite, t_ite, w_nil, w_cons, a_tup, w_fz, w_mu, a_disp, a_comp, w_ofSeq, w_call, w_prim, w_ix, w_sl, w_rev, w_pop, w_popAt, w_app, w_att, w_prop, w_mk, e_nop, e_int, e_var, e_bin, i_seq, a_rng, rngA_int, a_rng2, rngB_int, a_zip, zipA_some, a_enum, enA_some, src_tsI, src_lsI, t_call, t_prim, tru_bl, opt_some, t_nop, List.getElem?_cons_zero, List.getElem?_cons_succ, setTg, setTgs, List.set_cons_zero, List.set_cons_succ, wp_ok, wipeE, len0, len1, len2, len3, len4, len5, len6, len7, len8, len9, len10, if_true, if_false, Bool.false_eq_true, eq_int, ne_int, gt_int, lt_int', le_int', ge_int', add_int, sub_int, abs_int, int_int, Option.map_some, src_lst, src_tup, ix_t0, ix_t1, ix_t2, ix_t3, ix_l0, ix_l1, ix_l2, is_non, and_true, true_and, w_minD, w_cut, ft0, ft1, ft2, ft3, ix_pr0, ix_pr1, tup_ints, is_false0, Bool.not_true, Bool.not_false])
    rw [kI_t]
    exact no _ _ _ _ ⟨rfl, by rw [e]⟩
abbrev S161 (m : FM) : Prop := ∀ (S : Sto) (t : Tv) (n k : Nat), Tv.rOk k t = true → 1 ≤ n → n ≤ 1000 → m [.int n, t] S = .ok (mapErr n t) S
theorem ok161 {cf : Nat → FM} (d159 : S159 (cf 159)) (d160 : S160 (cf 160)) : S161 (runD cf xLawMapWord) := fun S t n k h n1 hn => by
  refine run_eq rfl ?_
  show (exs cf Fu xLawMapWord.body [some (.int n), some t, none, none] S).wp _
  unfold xLawMapWord
  have i1 : ∀ S, isiV .tuple S t = some (isT t) := fun S => isi_T h
  have no : ∀ (X : List Sx) (D : Po) (env : Env) (S : Sto), D.rt (.tup [.int (-1), .str "map"]) S → (exs cf Fu ([.ret (.tup [(.neg (.int 1)), (.str "map")])] ++ X) env S).wp D := fun X D env S q => by
    simp only [List.cons_append, List.nil_append]
    rw [q_ret]
    (try simp only [List.cons_append, List.nil_append, w_var, t_var, w_int, w_str, w_bl, w_non, w_gl, w_bin, w_neg, t_cmp, w_cmp, t_chain, w_chain, t_isC, w_isC, w_isi, t_isi, t_bop1, t_bop, w_bop1, w_bop, t_nt, w_nt, w_ite, t_ite, w_nil, w_cons, a_tup, w_fz, w_mu, a_disp, a_comp, w_ofSeq, w_call, w_prim, w_ix, w_sl, w_rev, w_pop, w_popAt, w_app, w_att, w_prop, w_mk, e_nop, e_int, e_var, e_bin, i_seq, a_rng, rngA_int, a_rng2, rngB_int, a_zip, zipA_some, a_enum, enA_some, src_tsI, src_lsI, t_call, t_prim, tru_bl, opt_some, t_nop, List.getElem?_cons_zero, List.getElem?_cons_succ, setTg, setTgs, List.set_cons_zero, List.set_cons_succ, wp_ok, wipeE, len0, len1, len2, len3, len4, len5, len6, len7, len8, len9, len10, if_true, if_false, Bool.false_eq_true, eq_int, ne_int, gt_int, lt_int', le_int', ge_int', add_int, sub_int, abs_int, int_int, Option.map_some, src_lst, src_tup, ix_t0, ix_t1, ix_t2, ix_t3, ix_l0, ix_l1, ix_l2, is_non, and_true, true_and, w_minD, w_cut, ft0, ft1, ft2, ft3, ix_pr0, ix_pr1, tup_ints, is_false0, Bool.not_true, Bool.not_false])
    exact q
  rw [q_if]
  (try simp only [List.cons_append, List.nil_append, w_var, t_var, w_int, w_str, w_bl, w_non, w_gl, w_bin, w_neg, t_cmp, w_cmp, t_chain, w_chain, t_isC, w_isC, w_isi, t_isi, t_bop1, t_bop, w_bop1, w_bop, t_nt, w_nt, w_ite, t_ite, w_nil, w_cons, a_tup, w_fz, w_mu, a_disp, a_comp, w_ofSeq, w_call, w_prim, w_ix, w_sl, w_rev, w_pop, w_popAt, w_app, w_att, w_prop, w_mk, e_nop, e_int, e_var, e_bin, i_seq, a_rng, rngA_int, a_rng2, rngB_int, a_zip, zipA_some, a_enum, enA_some, src_tsI, src_lsI, t_call, t_prim, tru_bl, opt_some, t_nop, List.getElem?_cons_zero, List.getElem?_cons_succ, setTg, setTgs, List.set_cons_zero, List.set_cons_succ, wp_ok, wipeE, len0, len1, len2, len3, len4, len5, len6, len7, len8, len9, len10, if_true, if_false, Bool.false_eq_true, eq_int, ne_int, gt_int, lt_int', le_int', ge_int', add_int, sub_int, abs_int, int_int, Option.map_some, src_lst, src_tup, ix_t0, ix_t1, ix_t2, ix_t3, ix_l0, ix_l1, ix_l2, is_non, and_true, true_and, w_minD, w_cut, ft0, ft1, ft2, ft3, ix_pr0, ix_pr1, tup_ints, is_false0, Bool.not_true, Bool.not_false, i1])
  by_cases c0 : ∃ ts, t = .tup ts
  · obtain ⟨ts, rfl⟩ := c0
    (try simp only [List.cons_append, List.nil_append, w_var, t_var, w_int, w_str, w_bl, w_non, w_gl, w_bin, w_neg, t_cmp, w_cmp, t_chain, w_chain, t_isC, w_isC, w_isi, t_isi, t_bop1, t_bop, w_bop1, w_bop, t_nt, w_nt, w_ite, t_ite, w_nil, w_cons, a_tup, w_fz, w_mu, a_disp, a_comp, w_ofSeq, w_call, w_prim, w_ix, w_sl, w_rev, w_pop, w_popAt, w_app, w_att, w_prop, w_mk, e_nop, e_int, e_var, e_bin, i_seq, a_rng, rngA_int, a_rng2, rngB_int, a_zip, zipA_some, a_enum, enA_some, src_tsI, src_lsI, t_call, t_prim, tru_bl, opt_some, t_nop, List.getElem?_cons_zero, List.getElem?_cons_succ, setTg, setTgs, List.set_cons_zero, List.set_cons_succ, wp_ok, wipeE, len0, len1, len2, len3, len4, len5, len6, len7, len8, len9, len10, if_true, if_false, Bool.false_eq_true, eq_int, ne_int, gt_int, lt_int', le_int', ge_int', add_int, sub_int, abs_int, int_int, Option.map_some, src_lst, src_tup, ix_t0, ix_t1, ix_t2, ix_t3, ix_l0, ix_l1, ix_l2, is_non, and_true, true_and, w_minD, w_cut, ft0, ft1, ft2, ft3, ix_pr0, ix_pr1, tup_ints, is_false0, Bool.not_true, Bool.not_false, show isT (.tup ts) = true from rfl, len_tup])
    cases hb : lenB 2 2 (.tup ts)
    · have e3 : ts.length ≠ 2 := fun z => by
        have := lenB_at (n := 2) (ts := ts)
        rw [decide_eq_true z] at this
        rw [show lenB 2 2 (.tup ts) = true from this] at hb
        cases hb
      have e : (!((ts.length : Int) == 2)) = true := ne_len (b := 2) e3
      rw [e]
      simp only [Bool.true_eq_false, if_false]
      rw [kI_t]
      exact no _ _ _ _ ⟨rfl, (mapErr_2 hb).symm⟩
    · obtain ⟨a, b, e⟩ := lenB_2 hb
      injection e with e
      subst e
      obtain ⟨j, rfl, ht⟩ := rOk_tup h
      have ha := ht a (by simp)
      have hb' := ht b (by simp)
      have x0 : ∀ S, ixV S (.tup [a, b]) (.int 0) = some a := fun S => rfl
      have x1 : ∀ S, ixV S (.tup [a, b]) (.int 1) = some b := fun S => rfl
      have e : (!((([a, b] : List Tv).length : Int) == 2)) = false := rfl
      rw [e]
      (try simp only [List.cons_append, List.nil_append, w_var, t_var, w_int, w_str, w_bl, w_non, w_gl, w_bin, w_neg, t_cmp, w_cmp, t_chain, w_chain, t_isC, w_isC, w_isi, t_isi, t_bop1, t_bop, w_bop1, w_bop, t_nt, w_nt, w_ite, t_ite, w_nil, w_cons, a_tup, w_fz, w_mu, a_disp, a_comp, w_ofSeq, w_call, w_prim, w_ix, w_sl, w_rev, w_pop, w_popAt, w_app, w_att, w_prop, w_mk, e_nop, e_int, e_var, e_bin, i_seq, a_rng, rngA_int, a_rng2, rngB_int, a_zip, zipA_some, a_enum, enA_some, src_tsI, src_lsI, t_call, t_prim, tru_bl, opt_some, t_nop, List.getElem?_cons_zero, List.getElem?_cons_succ, setTg, setTgs, List.set_cons_zero, List.set_cons_succ, wp_ok, wipeE, len0, len1, len2, len3, len4, len5, len6, len7, len8, len9, len10, if_true, if_false, Bool.false_eq_true, eq_int, ne_int, gt_int, lt_int', le_int', ge_int', add_int, sub_int, abs_int, int_int, Option.map_some, src_lst, src_tup, ix_t0, ix_t1, ix_t2, ix_t3, ix_l0, ix_l1, ix_l2, is_non, and_true, true_and, w_minD, w_cut, ft0, ft1, ft2, ft3, ix_pr0, ix_pr1, tup_ints, is_false0, Bool.not_true, Bool.not_false, x0, d159 _ a 2 6 j ha])
      cases h0 : inB 2 6 a
      · simp only [Bool.not_false]
        rw [kI_t]
        exact no _ _ _ _ ⟨rfl, (mapErr_a h0).symm⟩
      · simp only [Bool.not_true]
        obtain ⟨P, rfl, p1, p2⟩ := inB_int h0
        have i2 : ∀ S, isiV .tuple S b = some (isT b) := fun S => isi_T hb'
        rw [kI_f, List.nil_append, q_if]
        (try simp only [List.cons_append, List.nil_append, w_var, t_var, w_int, w_str, w_bl, w_non, w_gl, w_bin, w_neg, t_cmp, w_cmp, t_chain, w_chain, t_isC, w_isC, w_isi, t_isi, t_bop1, t_bop, w_bop1, w_bop, t_nt, w_nt, w_ite, t_ite, w_nil, w_cons, a_tup, w_fz, w_mu, a_disp, a_comp, w_ofSeq, w_call, w_prim, w_ix, w_sl, w_rev, w_pop, w_popAt, w_app, w_att, w_prop, w_mk, e_nop, e_int, e_var, e_bin, i_seq, a_rng, rngA_int, a_rng2, rngB_int, a_zip, zipA_some, a_enum, enA_some, src_tsI, src_lsI, t_call, t_prim, tru_bl, opt_some, t_nop, List.getElem?_cons_zero, List.getElem?_cons_succ, setTg, setTgs, List.set_cons_zero, List.set_cons_succ, wp_ok, wipeE, len0, len1, len2, len3, len4, len5, len6, len7, len8, len9, len10, if_true, if_false, Bool.false_eq_true, eq_int, ne_int, gt_int, lt_int', le_int', ge_int', add_int, sub_int, abs_int, int_int, Option.map_some, src_lst, src_tup, ix_t0, ix_t1, ix_t2, ix_t3, ix_l0, ix_l1, ix_l2, is_non, and_true, true_and, w_minD, w_cut, ft0, ft1, ft2, ft3, ix_pr0, ix_pr1, tup_ints, is_false0, Bool.not_true, Bool.not_false, x1, i2])
        by_cases c1 : ∃ rs, b = .tup rs
        · obtain ⟨rs, rfl⟩ := c1
          (try simp only [List.cons_append, List.nil_append, w_var, t_var, w_int, w_str, w_bl, w_non, w_gl, w_bin, w_neg, t_cmp, w_cmp, t_chain, w_chain, t_isC, w_isC, w_isi, t_isi, t_bop1, t_bop, w_bop1, w_bop, t_nt, w_nt, w_ite, t_ite, w_nil, w_cons, a_tup, w_fz, w_mu, a_disp, a_comp, w_ofSeq, w_call, w_prim, w_ix, w_sl, w_rev, w_pop, w_popAt, w_app, w_att, w_prop, w_mk, e_nop, e_int, e_var, e_bin, i_seq, a_rng, rngA_int, a_rng2, rngB_int, a_zip, zipA_some, a_enum, enA_some, src_tsI, src_lsI, t_call, t_prim, tru_bl, opt_some, t_nop, List.getElem?_cons_zero, List.getElem?_cons_succ, setTg, setTgs, List.set_cons_zero, List.set_cons_succ, wp_ok, wipeE, len0, len1, len2, len3, len4, len5, len6, len7, len8, len9, len10, if_true, if_false, Bool.false_eq_true, eq_int, ne_int, gt_int, lt_int', le_int', ge_int', add_int, sub_int, abs_int, int_int, Option.map_some, src_lst, src_tup, ix_t0, ix_t1, ix_t2, ix_t3, ix_l0, ix_l1, ix_l2, is_non, and_true, true_and, w_minD, w_cut, ft0, ft1, ft2, ft3, ix_pr0, ix_pr1, tup_ints, is_false0, Bool.not_true, Bool.not_false, show isT (.tup rs) = true from rfl, x1, len_tup])
          by_cases c2 : (rs.length : Int) > 12
          · rw [decide_eq_true c2, kI_t]
            refine no _ _ _ _ ⟨rfl, (mapErr_b ?_).symm⟩
            simp only [lenB]
            rw [decide_eq_false (show ¬ (rs.length : Int) ≤ 12 by omega), Bool.and_false]
          · rw [decide_eq_false c2, kI_f, List.nil_append, q_for]
            obtain ⟨jj, rfl, hr⟩ := rOk_tup hb'
            (try simp only [List.cons_append, List.nil_append, w_var, t_var, w_int, w_str, w_bl, w_non, w_gl, w_bin, w_neg, t_cmp, w_cmp, t_chain, w_chain, t_isC, w_isC, w_isi, t_isi, t_bop1, t_bop, w_bop1, w_bop, t_nt, w_nt, w_ite, t_ite, w_nil, w_cons, a_tup, w_fz, w_mu, a_disp, a_comp, w_ofSeq, w_call, w_prim, w_ix, w_sl, w_rev, w_pop, w_popAt, w_app, w_att, w_prop, w_mk, e_nop, e_int, e_var, e_bin, i_seq, a_rng, rngA_int, a_rng2, rngB_int, a_zip, zipA_some, a_enum, enA_some, src_tsI, src_lsI, t_call, t_prim, tru_bl, opt_some, t_nop, List.getElem?_cons_zero, List.getElem?_cons_succ, setTg, setTgs, List.set_cons_zero, List.set_cons_succ, wp_ok, wipeE, len0, len1, len2, len3, len4, len5, len6, len7, len8, len9, len10, if_true, if_false, Bool.false_eq_true, eq_int, ne_int, gt_int, lt_int', le_int', ge_int', add_int, sub_int, abs_int, int_int, Option.map_some, src_lst, src_tup, ix_t0, ix_t1, ix_t2, ix_t3, ix_l0, ix_l1, ix_l2, is_non, and_true, true_and, w_minD, w_cut, ft0, ft1, ft2, ft3, ix_pr0, ix_pr1, tup_ints, is_false0, Bool.not_true, Bool.not_false, x1])
            rw [kF_eq]
            refine roads_for (D := { nx := fun _ _ => False, rt := fun t S' => S' = S ∧ t = mapErr n (Tv.tup [Tv.int P, Tv.tup rs]) }) (fun t ht S => d160 S t n jj P (hr t ht) n1 hn) x0 ?_
            exact ⟨rfl, (mapErr_ok p1 p2 (by omega)).symm⟩
        · rw [not_tup c1]
          (try simp only [List.cons_append, List.nil_append, w_var, t_var, w_int, w_str, w_bl, w_non, w_gl, w_bin, w_neg, t_cmp, w_cmp, t_chain, w_chain, t_isC, w_isC, w_isi, t_isi, t_bop1, t_bop, w_bop1, w_bop, t_nt, w_nt, w_ite, t_ite, w_nil, w_cons, a_tup, w_fz, w_mu, a_disp, a_comp, w_ofSeq, w_call, w_prim, w_ix, w_sl, w_rev, w_pop, w_popAt, w_app, w_att, w_prop, w_mk, e_nop, e_int, e_var, e_bin, i_seq, a_rng, rngA_int, a_rng2, rngB_int, a_zip, zipA_some, a_enum, enA_some, src_tsI, src_lsI, t_call, t_prim, tru_bl, opt_some, t_nop, List.getElem?_cons_zero, List.getElem?_cons_succ, setTg, setTgs, List.set_cons_zero, List.set_cons_succ, wp_ok, wipeE, len0, len1, len2, len3, len4, len5, len6, len7, len8, len9, len10, if_true, if_false, Bool.false_eq_true, eq_int, ne_int, gt_int, lt_int', le_int', ge_int', add_int, sub_int, abs_int, int_int, Option.map_some, src_lst, src_tup, ix_t0, ix_t1, ix_t2, ix_t3, ix_l0, ix_l1, ix_l2, is_non, and_true, true_and, w_minD, w_cut, ft0, ft1, ft2, ft3, ix_pr0, ix_pr1, tup_ints, is_false0, Bool.not_true, Bool.not_false])
          rw [kI_t]
          refine no _ _ _ _ ⟨rfl, (mapErr_b ?_).symm⟩
          cases b with
          | tup ts => exact absurd ⟨_, rfl⟩ c1
          | _ => rfl
  · have e : mapErr n t = .tup [.int (-1), .str "map"] := by
      cases t with
      | tup ts => exact absurd ⟨_, rfl⟩ c0
      | _ => rfl
    rw [not_tup c0]
    (try simp only [List.cons_append, List.nil_append, w_var, t_var, w_int, w_str, w_bl, w_non, w_gl, w_bin, w_neg, t_cmp, w_cmp, t_chain, w_chain, t_isC, w_isC, w_isi, t_isi, t_bop1, t_bop, w_bop1, w_bop, t_nt, w_nt, w_ite, t_ite, w_nil, w_cons, a_tup, w_fz, w_mu, a_disp, a_comp, w_ofSeq, w_call, w_prim, w_ix, w_sl, w_rev, w_pop, w_popAt, w_app, w_att, w_prop, w_mk, e_nop, e_int, e_var, e_bin, i_seq, a_rng, rngA_int, a_rng2, rngB_int, a_zip, zipA_some, a_enum, enA_some, src_tsI, src_lsI, t_call, t_prim, tru_bl, opt_some, t_nop, List.getElem?_cons_zero, List.getElem?_cons_succ, setTg, setTgs, List.set_cons_zero, List.set_cons_succ, wp_ok, wipeE, len0, len1, len2, len3, len4, len5, len6, len7, len8, len9, len10, if_true, if_false, Bool.false_eq_true, eq_int, ne_int, gt_int, lt_int', le_int', ge_int', add_int, sub_int, abs_int, int_int, Option.map_some, src_lst, src_tup, ix_t0, ix_t1, ix_t2, ix_t3, ix_l0, ix_l1, ix_l2, is_non, and_true, true_and, w_minD, w_cut, ft0, ft1, ft2, ft3, ix_pr0, ix_pr1, tup_ints, is_false0, Bool.not_true, Bool.not_false])
    rw [kI_t]
    exact no _ _ _ _ ⟨rfl, e.symm⟩
def xLawBent3 : Df := bentDf (.call 155 [(.var 0), (.ix (.var 1) (.var 4)), (.bin .sub (.var 2) (.int 1))])
def xLawBent4 : Df := bentDf (.call 163 [(.var 0), (.ix (.var 1) (.var 4)), (.bin .sub (.var 2) (.int 1))])
abbrev S163 (m : FM) : Prop := SBent 3 m
abbrev S164 (m : FM) : Prop := SBent 4 m
theorem ok163 {cf : Nat → FM} (d7 : S7 (cf 7)) (d8 : S8 (cf 8)) (d152 : S152 (cf 152)) (d155 : S155 (cf 155)) : S163 (runD cf xLawBent3) := bent_ok d7 d8 d152 (.inr ⟨155, 2, rfl, rfl, d155⟩)
theorem ok164 {cf : Nat → FM} (d7 : S7 (cf 7)) (d8 : S8 (cf 8)) (d152 : S152 (cf 152)) (d163 : S163 (cf 163)) : S164 (runD cf xLawBent4) := bent_ok d7 d8 d152 (.inr ⟨163, 3, rfl, rfl, d163⟩)
end Mp
namespace Mp
/-! ### k08 -/
theorem mapErr_v {n : Nat} {t : Tv} : VOk 2 100 (mapErr n t) := by
  have m : VOk 2 100 (.tup [.int (-1), .str "map"]) := vok_pair (by decide) (by decide +kernel) (by decide +kernel)
  unfold mapErr
  split
  · split
    · exact firstB_ok (by decide +kernel) (by decide +kernel) (by omega)
    · exact m
  · exact m
theorem plns_pair {k : Nat} {a b : Tv} (h1 : Tv.pln k a = true) (h2 : Tv.pln k b = true) : Tv.pln (k + 1) (.tup [a, b]) = true := by
  simp only [Tv.pln, Tv.plns, h1, h2, Bool.and_self]
theorem pln_I {k : Nat} {i : Int} (h : Bd 1000 i) : Tv.pln k (.int i) = true := by
  simp only [Tv.pln]
  exact decide_eq_true h
theorem vok1 {k x B : Nat} {a : Tv} (ha : VOk k x a) (h : x + 1 ≤ B) : VOk (k + 1) B (.tup [a]) := by
  refine vok_tup (fun t ht => ?_) ?_
  · rw [List.mem_singleton.mp ht]; exact ha.r
  · have := ha.b
    simp only [Tv.bulks]
    omega
theorem vok2 {k x y B : Nat} {a b : Tv} (ha : VOk k x a) (hb : VOk k y b) (h : x + y + 2 ≤ B) : VOk (k + 1) B (.tup [a, b]) := by
  refine vok_tup (fun t ht => ?_) ?_
  · simp only [List.mem_cons, List.not_mem_nil, or_false] at ht
    rcases ht with rfl | rfl
    · exact ha.r
    · exact hb.r
  · have := ha.b
    have := hb.b
    simp only [Tv.bulks]
    omega
theorem vok3 {k x y z B : Nat} {a b c : Tv} (ha : VOk k x a) (hb : VOk k y b) (hc : VOk k z c) (h : x + y + z + 3 ≤ B) : VOk (k + 1) B (.tup [a, b, c]) := by
  refine vok_tup (fun t ht => ?_) ?_
  · simp only [List.mem_cons, List.not_mem_nil, or_false] at ht
    rcases ht with rfl | rfl | rfl
    · exact ha.r
    · exact hb.r
    · exact hc.r
  · have := ha.b
    have := hb.b
    have := hc.b
    simp only [Tv.bulks]
    omega
theorem vok_rep {k x B m : Nat} {a : Tv} (ha : VOk k x a) (h : m * (x + 1) ≤ B) : VOk (k + 1) B (.tup (rep m [a])) := by
  refine vok_tup (fun t ht => ?_) ?_
  · rw [List.mem_singleton.mp (rep_mem ht)]; exact ha.r
  · rw [rep_bulks]
    have := ha.b
    refine Nat.le_trans (Nat.mul_le_mul_left m ?_) h
    simp only [Tv.bulks]
    omega
theorem cat_at {S : Sto} {k : Nat} {a b : List Tv} (h : S[k]? = some (.lst a)) (hl : a.length + b.length ≤ 1000) : catLV S (.cell k) (.lst b) = some (a ++ b) := by
  have e1 : lstOf S (.cell k) = some a := by simp only [lstOf, h]
  have e2 : lstOf S (.lst b) = some b := rfl
  unfold catLV
  rw [e1, e2]
  simp only
  rw [if_pos (by unfold lim; omega)]
theorem map_pln {n : Nat} {P : Int} {R : List Rd} (h : MapOk n 30 P R) (hn : n ≤ 4) : Tv.pln 4 (mapT P R) = true ∧ Tv.bulk (mapT P R) ≤ 200 := by
  have sm : ∀ x : Int, x.natAbs ≤ 6 → Bd 1000 x := fun x hx => (Bd.of (k := 3) hx (by decide)).mono (by decide)
  have hp := h.p
  constructor
  · unfold mapT
    refine plns_pair (pln_I (sm _ (by omega))) ?_
    simp only [Tv.pln]
    refine plns_all.mpr fun t ht => ?_
    obtain ⟨r, hr, rfl⟩ := List.mem_map.mp ht
    obtain ⟨w1, w2, w3, w4⟩ := h.w r hr
    unfold rdT
    have e1 : Tv.pln 1 (.int r.s) = true := pln_I (sm _ (by omega))
    have e2 : Tv.pln 1 (.int r.e) = true := pln_I (sm _ (by omega))
    have e3 : Tv.pln 1 (tsI r.c) = true := tsI_pln fun x hx => ((w4 x hx).2).mono (by decide)
    show (Tv.pln 1 (.int r.s) && (Tv.pln 1 (.int r.e) && (Tv.pln 1 (tsI r.c) && true))) = true
    rw [e1, e2, e3]
    rfl
  · have go : ∀ L : List Rd, (∀ r ∈ L, r.c.length = n) → Tv.bulks (L.map rdT) ≤ L.length * 8 := fun L => by
      induction L with
      | nil => exact fun _ => by simp [Tv.bulks]
      | cons r L ih =>
        intro hL
        have i2 := ih fun r hr => hL r (List.mem_cons_of_mem _ hr)
        have e : Tv.bulk (rdT r) = 3 + n := by
          show Tv.bulks [.int r.s, .int r.e, tsI r.c] = _
          simp only [Tv.bulks, Tv.bulk]
          have : Tv.bulk (tsI r.c) = n := by
            show Tv.bulks (r.c.map Tv.int) = n
            rw [bulks_ints, hL r List.mem_cons_self]
          omega
        simp only [List.map_cons, Tv.bulks, e, List.length_cons, Nat.succ_mul]
        omega
    have z := go R fun r hr => (h.w r hr).2.2.1
    have := h.l
    show Tv.bulks [.int P, .tup (R.map rdT)] ≤ 200
    have e : Tv.bulk (.tup (R.map rdT)) = Tv.bulks (R.map rdT) := rfl
    simp only [Tv.bulks, Tv.bulk]
    omega
def xLaw_k08 : Df := ⟨10, 1,
  [
    .asg (.v 1) (.call 6 [(.var 0)]),
    .forS (.v 2) (.rng (.int 8))
      [
        .asg (.v 3) (.bin .add (.int 1) (.call 7 [(.var 1), (.int 4)])),
        .asg (.v 4) (.call 136 [(.var 1), (.var 3)]),
        .asg (.v 5) (.tup [(.int 0), (.int 1), (.bin .mul (.tup [(.int 0)]) (.var 3))]),
        .asg (.v 6) (.mu (.disp [(.var 4), (.tup [(.int 2), (.tup [])]), (.tup [(.int 1), (.tup [])]), (.tup [(.int 7), (.tup [])]), (.tup [(.int 2), (.bin .mul (.tup [(.var 5)]) (.int 12))]), (.tup [(.int 2), (.bin .mul (.tup [(.var 5)]) (.int 13))]), .non, (.tup []), (.fz (.ofSeq (.var 4))), .dct0])),
        .asg (.v 6) (.mu (.cat (.var 6) (.fz (.disp [(.tup [(.int 2), (.tup [(.tup [(.int 1), (.int 1), (.bin .mul (.tup [(.int 0)]) (.var 3))])])]), (.tup [(.int 2), (.tup [(.var 5), (.tup [(.int 0), (.int 2), (.bin .mul (.tup [(.int 0)]) (.var 3))])])]), (.tup [(.bl true), (.tup [])]), (.tup [(.int 2), (.fz (.disp [(.var 5)]))])])))),
        .forS (.v 7) (.rng (.int 5))
          [
            .drop (.app (.var 6) (.call 164 [(.var 1), (.var 4), (.int 4)]))],
        .forS (.v 8) (.seq (.var 6))
          [
            .asg (.v 9) (.prim .repr [(.var 8)]),
            .ifS (.bop false [(.cmp .ne (.prim .repr [(.call 147 [(.var 3), (.var 8)])]) (.prim .repr [(.call 161 [(.var 3), (.var 8)])])), (.cmp .ne (.prim .repr [(.var 8)]) (.var 9))])
              [
                .ret (.bl false)]
              []]],
    .ret (.bl true)]⟩
theorem law_k08 {cf : Nat → FM} {ns : List Int} (hl : ns.length ≤ 63) (d6 : S6 (cf 6)) (d7 : S7 (cf 7)) (d136 : S136 (cf 136)) (d147 : S147c (cf 147)) (d161 : S161 (cf 161)) (d164 : S164 (cf 164)) :
    ∃ S', runD cf xLaw_k08 [.scr (ns.map Tv.int)] [] = .ok (.bl true) S' := by
  refine run_law rfl ?_
  show (exs cf Fu xLaw_k08.body [some (.scr (ns.map Tv.int)), none, none, none, none, none, none, none, none, none] []).wp _
  unfold xLaw_k08
  rw [q_asg]
  (try simp only [List.cons_append, List.nil_append, w_var, t_var, w_int, w_str, w_bl, w_non, w_gl, w_bin, w_neg, t_cmp, w_cmp, t_chain, w_chain, t_isC, w_isC, w_isi, t_isi, t_bop1, t_bop, w_bop1, w_bop, t_nt, w_nt, w_ite, t_ite, w_nil, w_cons, a_tup, w_fz, w_mu, a_disp, a_comp, w_ofSeq, w_call, w_prim, w_ix, w_sl, w_rev, w_pop, w_popAt, w_app, w_att, w_prop, w_mk, e_nop, e_int, e_var, e_bin, i_seq, a_rng, rngA_int, a_rng2, rngB_int, a_zip, zipA_some, a_enum, enA_some, src_tsI, src_lsI, t_call, t_prim, tru_bl, opt_some, t_nop, List.getElem?_cons_zero, List.getElem?_cons_succ, setTg, setTgs, List.set_cons_zero, List.set_cons_succ, wp_ok, wipeE, len0, len1, len2, len3, len4, len5, len6, len7, len8, len9, len10, if_true, if_false, Bool.false_eq_true, eq_int, ne_int, gt_int, lt_int', le_int', ge_int', add_int, sub_int, abs_int, int_int, Option.map_some, src_lst, src_tup, ix_t0, ix_t1, ix_t2, ix_t3, ix_l0, ix_l1, ix_l2, is_non, and_true, true_and, w_minD, w_cut, ft0, ft1, ft2, ft3, ix_pr0, ix_pr1, tup_ints, is_false0, Bool.not_true, Bool.not_false])
  refine wp_mono (d6.at hl) ?_
  rintro t S ⟨rfl, d0⟩
  rw [kA_eq]
  (try simp only [List.cons_append, List.nil_append, w_var, t_var, w_int, w_str, w_bl, w_non, w_gl, w_bin, w_neg, t_cmp, w_cmp, t_chain, w_chain, t_isC, w_isC, w_isi, t_isi, t_bop1, t_bop, w_bop1, w_bop, t_nt, w_nt, w_ite, t_ite, w_nil, w_cons, a_tup, w_fz, w_mu, a_disp, a_comp, w_ofSeq, w_call, w_prim, w_ix, w_sl, w_rev, w_pop, w_popAt, w_app, w_att, w_prop, w_mk, e_nop, e_int, e_var, e_bin, i_seq, a_rng, rngA_int, a_rng2, rngB_int, a_zip, zipA_some, a_enum, enA_some, src_tsI, src_lsI, t_call, t_prim, tru_bl, opt_some, t_nop, List.getElem?_cons_zero, List.getElem?_cons_succ, setTg, setTgs, List.set_cons_zero, List.set_cons_succ, wp_ok, wipeE, len0, len1, len2, len3, len4, len5, len6, len7, len8, len9, len10, if_true, if_false, Bool.false_eq_true, eq_int, ne_int, gt_int, lt_int', le_int', ge_int', add_int, sub_int, abs_int, int_int, Option.map_some, src_lst, src_tup, ix_t0, ix_t1, ix_t2, ix_t3, ix_l0, ix_l1, ix_l2, is_non, and_true, true_and, w_minD, w_cut, ft0, ft1, ft2, ft3, ix_pr0, ix_pr1, tup_ints, is_false0, Bool.not_true, Bool.not_false])
  rw [q_for]
  (try simp only [List.cons_append, List.nil_append, w_var, t_var, w_int, w_str, w_bl, w_non, w_gl, w_bin, w_neg, t_cmp, w_cmp, t_chain, w_chain, t_isC, w_isC, w_isi, t_isi, t_bop1, t_bop, w_bop1, w_bop, t_nt, w_nt, w_ite, t_ite, w_nil, w_cons, a_tup, w_fz, w_mu, a_disp, a_comp, w_ofSeq, w_call, w_prim, w_ix, w_sl, w_rev, w_pop, w_popAt, w_app, w_att, w_prop, w_mk, e_nop, e_int, e_var, e_bin, i_seq, a_rng, rngA_int, a_rng2, rngB_int, a_zip, zipA_some, a_enum, enA_some, src_tsI, src_lsI, t_call, t_prim, tru_bl, opt_some, t_nop, List.getElem?_cons_zero, List.getElem?_cons_succ, setTg, setTgs, List.set_cons_zero, List.set_cons_succ, wp_ok, wipeE, len0, len1, len2, len3, len4, len5, len6, len7, len8, len9, len10, if_true, if_false, Bool.false_eq_true, eq_int, ne_int, gt_int, lt_int', le_int', ge_int', add_int, sub_int, abs_int, int_int, Option.map_some, src_lst, src_tup, ix_t0, ix_t1, ix_t2, ix_t3, ix_l0, ix_l1, ix_l2, is_non, and_true, true_and, w_minD, w_cut, ft0, ft1, ft2, ft3, ix_pr0, ix_pr1, tup_ints, is_false0, Bool.not_true, Bool.not_false])
  refine ⟨by decide, ?_⟩
  rw [rngT_map, kF_eq]
  refine for_on (fun dn r env S => Dk (400 * dn.length) S ∧ dn.length + r.length = 8 ∧ ∃ j2 j3 j4 j5 j6 j7 j8 j9 : Option Tv, env = [some (.scr (ns.map Tv.int)), some (.cell 1), j2, j3, j4, j5, j6, j7, j8, j9]) (fun _ _ _ _ _ => rfl) ?_ ?_ ⟨d0, by decide, _, _, _, _, _, _, _, _, rfl⟩
  · rintro dn x r env S - ⟨d, hlen, j2, j3, j4, j5, j6, j7, j8, j9, rfl⟩
    simp only [List.length_cons] at hlen
    (try simp only [List.cons_append, List.nil_append, w_var, t_var, w_int, w_str, w_bl, w_non, w_gl, w_bin, w_neg, t_cmp, w_cmp, t_chain, w_chain, t_isC, w_isC, w_isi, t_isi, t_bop1, t_bop, w_bop1, w_bop, t_nt, w_nt, w_ite, t_ite, w_nil, w_cons, a_tup, w_fz, w_mu, a_disp, a_comp, w_ofSeq, w_call, w_prim, w_ix, w_sl, w_rev, w_pop, w_popAt, w_app, w_att, w_prop, w_mk, e_nop, e_int, e_var, e_bin, i_seq, a_rng, rngA_int, a_rng2, rngB_int, a_zip, zipA_some, a_enum, enA_some, src_tsI, src_lsI, t_call, t_prim, tru_bl, opt_some, t_nop, List.getElem?_cons_zero, List.getElem?_cons_succ, setTg, setTgs, List.set_cons_zero, List.set_cons_succ, wp_ok, wipeE, len0, len1, len2, len3, len4, len5, len6, len7, len8, len9, len10, if_true, if_false, Bool.false_eq_true, eq_int, ne_int, gt_int, lt_int', le_int', ge_int', add_int, sub_int, abs_int, int_int, Option.map_some, src_lst, src_tup, ix_t0, ix_t1, ix_t2, ix_t3, ix_l0, ix_l1, ix_l2, is_non, and_true, true_and, w_minD, w_cut, ft0, ft1, ft2, ft3, ix_pr0, ix_pr1, tup_ints, is_false0, Bool.not_true, Bool.not_false])
    rw [q_asg]
    (try simp only [List.cons_append, List.nil_append, w_var, t_var, w_int, w_str, w_bl, w_non, w_gl, w_bin, w_neg, t_cmp, w_cmp, t_chain, w_chain, t_isC, w_isC, w_isi, t_isi, t_bop1, t_bop, w_bop1, w_bop, t_nt, w_nt, w_ite, t_ite, w_nil, w_cons, a_tup, w_fz, w_mu, a_disp, a_comp, w_ofSeq, w_call, w_prim, w_ix, w_sl, w_rev, w_pop, w_popAt, w_app, w_att, w_prop, w_mk, e_nop, e_int, e_var, e_bin, i_seq, a_rng, rngA_int, a_rng2, rngB_int, a_zip, zipA_some, a_enum, enA_some, src_tsI, src_lsI, t_call, t_prim, tru_bl, opt_some, t_nop, List.getElem?_cons_zero, List.getElem?_cons_succ, setTg, setTgs, List.set_cons_zero, List.set_cons_succ, wp_ok, wipeE, len0, len1, len2, len3, len4, len5, len6, len7, len8, len9, len10, if_true, if_false, Bool.false_eq_true, eq_int, ne_int, gt_int, lt_int', le_int', ge_int', add_int, sub_int, abs_int, int_int, Option.map_some, src_lst, src_tup, ix_t0, ix_t1, ix_t2, ix_t3, ix_l0, ix_l1, ix_l2, is_non, and_true, true_and, w_minD, w_cut, ft0, ft1, ft2, ft3, ix_pr0, ix_pr1, tup_ints, is_false0, Bool.not_true, Bool.not_false])
    refine d7.wp d (by omega) (by decide) (by decide) fun v S1 v0 v1 d1 g1 => ?_
    (try simp only [List.cons_append, List.nil_append, w_var, t_var, w_int, w_str, w_bl, w_non, w_gl, w_bin, w_neg, t_cmp, w_cmp, t_chain, w_chain, t_isC, w_isC, w_isi, t_isi, t_bop1, t_bop, w_bop1, w_bop, t_nt, w_nt, w_ite, t_ite, w_nil, w_cons, a_tup, w_fz, w_mu, a_disp, a_comp, w_ofSeq, w_call, w_prim, w_ix, w_sl, w_rev, w_pop, w_popAt, w_app, w_att, w_prop, w_mk, e_nop, e_int, e_var, e_bin, i_seq, a_rng, rngA_int, a_rng2, rngB_int, a_zip, zipA_some, a_enum, enA_some, src_tsI, src_lsI, t_call, t_prim, tru_bl, opt_some, t_nop, List.getElem?_cons_zero, List.getElem?_cons_succ, setTg, setTgs, List.set_cons_zero, List.set_cons_succ, wp_ok, wipeE, len0, len1, len2, len3, len4, len5, len6, len7, len8, len9, len10, if_true, if_false, Bool.false_eq_true, eq_int, ne_int, gt_int, lt_int', le_int', ge_int', add_int, sub_int, abs_int, int_int, Option.map_some, src_lst, src_tup, ix_t0, ix_t1, ix_t2, ix_t3, ix_l0, ix_l1, ix_l2, is_non, and_true, true_and, w_minD, w_cut, ft0, ft1, ft2, ft3, ix_pr0, ix_pr1, tup_ints, is_false0, Bool.not_true, Bool.not_false])
    obtain ⟨v, rfl⟩ := Int.eq_ofNat_of_zero_le v0
    have ev1 : (1 : Int) + (v : Int) = ((v + 1 : Nat) : Int) := by omega
    rw [ev1]
    generalize hm : v + 1 = n
    have hm1 : 1 ≤ n ∧ n ≤ 4 := by omega
    rw [kA_eq]
    (try simp only [List.cons_append, List.nil_append, w_var, t_var, w_int, w_str, w_bl, w_non, w_gl, w_bin, w_neg, t_cmp, w_cmp, t_chain, w_chain, t_isC, w_isC, w_isi, t_isi, t_bop1, t_bop, w_bop1, w_bop, t_nt, w_nt, w_ite, t_ite, w_nil, w_cons, a_tup, w_fz, w_mu, a_disp, a_comp, w_ofSeq, w_call, w_prim, w_ix, w_sl, w_rev, w_pop, w_popAt, w_app, w_att, w_prop, w_mk, e_nop, e_int, e_var, e_bin, i_seq, a_rng, rngA_int, a_rng2, rngB_int, a_zip, zipA_some, a_enum, enA_some, src_tsI, src_lsI, t_call, t_prim, tru_bl, opt_some, t_nop, List.getElem?_cons_zero, List.getElem?_cons_succ, setTg, setTgs, List.set_cons_zero, List.set_cons_succ, wp_ok, wipeE, len0, len1, len2, len3, len4, len5, len6, len7, len8, len9, len10, if_true, if_false, Bool.false_eq_true, eq_int, ne_int, gt_int, lt_int', le_int', ge_int', add_int, sub_int, abs_int, int_int, Option.map_some, src_lst, src_tup, ix_t0, ix_t1, ix_t2, ix_t3, ix_l0, ix_l1, ix_l2, is_non, and_true, true_and, w_minD, w_cut, ft0, ft1, ft2, ft3, ix_pr0, ix_pr1, tup_ints, is_false0, Bool.not_true, Bool.not_false])
    rw [q_asg]
    (try simp only [List.cons_append, List.nil_append, w_var, t_var, w_int, w_str, w_bl, w_non, w_gl, w_bin, w_neg, t_cmp, w_cmp, t_chain, w_chain, t_isC, w_isC, w_isi, t_isi, t_bop1, t_bop, w_bop1, w_bop, t_nt, w_nt, w_ite, t_ite, w_nil, w_cons, a_tup, w_fz, w_mu, a_disp, a_comp, w_ofSeq, w_call, w_prim, w_ix, w_sl, w_rev, w_pop, w_popAt, w_app, w_att, w_prop, w_mk, e_nop, e_int, e_var, e_bin, i_seq, a_rng, rngA_int, a_rng2, rngB_int, a_zip, zipA_some, a_enum, enA_some, src_tsI, src_lsI, t_call, t_prim, tru_bl, opt_some, t_nop, List.getElem?_cons_zero, List.getElem?_cons_succ, setTg, setTgs, List.set_cons_zero, List.set_cons_succ, wp_ok, wipeE, len0, len1, len2, len3, len4, len5, len6, len7, len8, len9, len10, if_true, if_false, Bool.false_eq_true, eq_int, ne_int, gt_int, lt_int', le_int', ge_int', add_int, sub_int, abs_int, int_int, Option.map_some, src_lst, src_tup, ix_t0, ix_t1, ix_t2, ix_t3, ix_l0, ix_l1, ix_l2, is_non, and_true, true_and, w_minD, w_cut, ft0, ft1, ft2, ft3, ix_pr0, ix_pr1, tup_ints, is_false0, Bool.not_true, Bool.not_false])
    refine wp_mono (d136 S1 _ n d1 hm1.2 (by omega)) ?_
    rintro t S3 ⟨⟨P, R, rfl, hmap⟩, d3, g3⟩
    obtain ⟨mp, mb⟩ := map_pln hmap hm1.2
    generalize hq : mapT P R = mq at *
    rw [kA_eq]
    (try simp only [List.cons_append, List.nil_append, w_var, t_var, w_int, w_str, w_bl, w_non, w_gl, w_bin, w_neg, t_cmp, w_cmp, t_chain, w_chain, t_isC, w_isC, w_isi, t_isi, t_bop1, t_bop, w_bop1, w_bop, t_nt, w_nt, w_ite, t_ite, w_nil, w_cons, a_tup, w_fz, w_mu, a_disp, a_comp, w_ofSeq, w_call, w_prim, w_ix, w_sl, w_rev, w_pop, w_popAt, w_app, w_att, w_prop, w_mk, e_nop, e_int, e_var, e_bin, i_seq, a_rng, rngA_int, a_rng2, rngB_int, a_zip, zipA_some, a_enum, enA_some, src_tsI, src_lsI, t_call, t_prim, tru_bl, opt_some, t_nop, List.getElem?_cons_zero, List.getElem?_cons_succ, setTg, setTgs, List.set_cons_zero, List.set_cons_succ, wp_ok, wipeE, len0, len1, len2, len3, len4, len5, len6, len7, len8, len9, len10, if_true, if_false, Bool.false_eq_true, eq_int, ne_int, gt_int, lt_int', le_int', ge_int', add_int, sub_int, abs_int, int_int, Option.map_some, src_lst, src_tup, ix_t0, ix_t1, ix_t2, ix_t3, ix_l0, ix_l1, ix_l2, is_non, and_true, true_and, w_minD, w_cut, ft0, ft1, ft2, ft3, ix_pr0, ix_pr1, tup_ints, is_false0, Bool.not_true, Bool.not_false])
    rw [q_asg]
    have mu1 : ∀ S, binV .mul S (.tup [.int 0]) (.int (n : Int)) = some (.tup (rep n [.int 0])) := fun S => mul_tup hm1.1 (by omega) (by simp) (by simp)
    (try simp only [List.cons_append, List.nil_append, w_var, t_var, w_int, w_str, w_bl, w_non, w_gl, w_bin, w_neg, t_cmp, w_cmp, t_chain, w_chain, t_isC, w_isC, w_isi, t_isi, t_bop1, t_bop, w_bop1, w_bop, t_nt, w_nt, w_ite, t_ite, w_nil, w_cons, a_tup, w_fz, w_mu, a_disp, a_comp, w_ofSeq, w_call, w_prim, w_ix, w_sl, w_rev, w_pop, w_popAt, w_app, w_att, w_prop, w_mk, e_nop, e_int, e_var, e_bin, i_seq, a_rng, rngA_int, a_rng2, rngB_int, a_zip, zipA_some, a_enum, enA_some, src_tsI, src_lsI, t_call, t_prim, tru_bl, opt_some, t_nop, List.getElem?_cons_zero, List.getElem?_cons_succ, setTg, setTgs, List.set_cons_zero, List.set_cons_succ, wp_ok, wipeE, len0, len1, len2, len3, len4, len5, len6, len7, len8, len9, len10, if_true, if_false, Bool.false_eq_true, eq_int, ne_int, gt_int, lt_int', le_int', ge_int', add_int, sub_int, abs_int, int_int, Option.map_some, src_lst, src_tup, ix_t0, ix_t1, ix_t2, ix_t3, ix_l0, ix_l1, ix_l2, is_non, and_true, true_and, w_minD, w_cut, ft0, ft1, ft2, ft3, ix_pr0, ix_pr1, tup_ints, is_false0, Bool.not_true, Bool.not_false, mu1])
    rw [kA_eq]
    (try simp only [List.cons_append, List.nil_append, w_var, t_var, w_int, w_str, w_bl, w_non, w_gl, w_bin, w_neg, t_cmp, w_cmp, t_chain, w_chain, t_isC, w_isC, w_isi, t_isi, t_bop1, t_bop, w_bop1, w_bop, t_nt, w_nt, w_ite, t_ite, w_nil, w_cons, a_tup, w_fz, w_mu, a_disp, a_comp, w_ofSeq, w_call, w_prim, w_ix, w_sl, w_rev, w_pop, w_popAt, w_app, w_att, w_prop, w_mk, e_nop, e_int, e_var, e_bin, i_seq, a_rng, rngA_int, a_rng2, rngB_int, a_zip, zipA_some, a_enum, enA_some, src_tsI, src_lsI, t_call, t_prim, tru_bl, opt_some, t_nop, List.getElem?_cons_zero, List.getElem?_cons_succ, setTg, setTgs, List.set_cons_zero, List.set_cons_succ, wp_ok, wipeE, len0, len1, len2, len3, len4, len5, len6, len7, len8, len9, len10, if_true, if_false, Bool.false_eq_true, eq_int, ne_int, gt_int, lt_int', le_int', ge_int', add_int, sub_int, abs_int, int_int, Option.map_some, src_lst, src_tup, ix_t0, ix_t1, ix_t2, ix_t3, ix_l0, ix_l1, ix_l2, is_non, and_true, true_and, w_minD, w_cut, ft0, ft1, ft2, ft3, ix_pr0, ix_pr1, tup_ints, is_false0, Bool.not_true, Bool.not_false])
    rw [q_asg]
    generalize hz : Tv.tup (rep n [.int 0]) = z0 at *
    generalize hr0 : Tv.tup [.int 0, .int 1, z0] = r0
    have mu2 : ∀ S, binV .mul S (.tup [r0]) (.int 12) = some (.tup (rep 12 [r0])) := fun S => mul_tup (k := 12) (by decide) (by decide) (by simp) (by simp)
    have mu3 : ∀ S, binV .mul S (.tup [r0]) (.int 13) = some (.tup (rep 13 [r0])) := fun S => mul_tup (k := 13) (by decide) (by decide) (by simp) (by simp)
    obtain ⟨us, hus, ub⟩ : ∃ us : List Tv, (∀ S, seqOf S mq = some us) ∧ VOk 8 1000 (.lst us) := by
      refine ⟨[.int P, .tup (R.map rdT)], fun S => by rw [← hq]; rfl, ?_⟩
      have z := pln_rOk (Nat.le_refl _) mp
      rw [← hq] at z mb
      obtain ⟨j, hj, hh⟩ := rOk_tup z
      exact vok_lst (k := 7) (fun t ht => rOk_mono (by omega) (hh t ht)) (Nat.le_trans mb (by decide))
    (try simp only [List.cons_append, List.nil_append, w_var, t_var, w_int, w_str, w_bl, w_non, w_gl, w_bin, w_neg, t_cmp, w_cmp, t_chain, w_chain, t_isC, w_isC, w_isi, t_isi, t_bop1, t_bop, w_bop1, w_bop, t_nt, w_nt, w_ite, t_ite, w_nil, w_cons, a_tup, w_fz, w_mu, a_disp, a_comp, w_ofSeq, w_call, w_prim, w_ix, w_sl, w_rev, w_pop, w_popAt, w_app, w_att, w_prop, w_mk, e_nop, e_int, e_var, e_bin, i_seq, a_rng, rngA_int, a_rng2, rngB_int, a_zip, zipA_some, a_enum, enA_some, src_tsI, src_lsI, t_call, t_prim, tru_bl, opt_some, t_nop, List.getElem?_cons_zero, List.getElem?_cons_succ, setTg, setTgs, List.set_cons_zero, List.set_cons_succ, wp_ok, wipeE, len0, len1, len2, len3, len4, len5, len6, len7, len8, len9, len10, if_true, if_false, Bool.false_eq_true, eq_int, ne_int, gt_int, lt_int', le_int', ge_int', add_int, sub_int, abs_int, int_int, Option.map_some, src_lst, src_tup, ix_t0, ix_t1, ix_t2, ix_t3, ix_l0, ix_l1, ix_l2, is_non, and_true, true_and, w_minD, w_cut, ft0, ft1, ft2, ft3, ix_pr0, ix_pr1, tup_ints, is_false0, Bool.not_true, Bool.not_false, mu2, mu3, hus, w_dct0, alloc])
    rw [kA_eq]
    (try simp only [List.cons_append, List.nil_append, w_var, t_var, w_int, w_str, w_bl, w_non, w_gl, w_bin, w_neg, t_cmp, w_cmp, t_chain, w_chain, t_isC, w_isC, w_isi, t_isi, t_bop1, t_bop, w_bop1, w_bop, t_nt, w_nt, w_ite, t_ite, w_nil, w_cons, a_tup, w_fz, w_mu, a_disp, a_comp, w_ofSeq, w_call, w_prim, w_ix, w_sl, w_rev, w_pop, w_popAt, w_app, w_att, w_prop, w_mk, e_nop, e_int, e_var, e_bin, i_seq, a_rng, rngA_int, a_rng2, rngB_int, a_zip, zipA_some, a_enum, enA_some, src_tsI, src_lsI, t_call, t_prim, tru_bl, opt_some, t_nop, List.getElem?_cons_zero, List.getElem?_cons_succ, setTg, setTgs, List.set_cons_zero, List.set_cons_succ, wp_ok, wipeE, len0, len1, len2, len3, len4, len5, len6, len7, len8, len9, len10, if_true, if_false, Bool.false_eq_true, eq_int, ne_int, gt_int, lt_int', le_int', ge_int', add_int, sub_int, abs_int, int_int, Option.map_some, src_lst, src_tup, ix_t0, ix_t1, ix_t2, ix_t3, ix_l0, ix_l1, ix_l2, is_non, and_true, true_and, w_minD, w_cut, ft0, ft1, ft2, ft3, ix_pr0, ix_pr1, tup_ints, is_false0, Bool.not_true, Bool.not_false])
    rw [q_asg]
    (try simp only [List.cons_append, List.nil_append, w_var, t_var, w_int, w_str, w_bl, w_non, w_gl, w_bin, w_neg, t_cmp, w_cmp, t_chain, w_chain, t_isC, w_isC, w_isi, t_isi, t_bop1, t_bop, w_bop1, w_bop, t_nt, w_nt, w_ite, t_ite, w_nil, w_cons, a_tup, w_fz, w_mu, a_disp, a_comp, w_ofSeq, w_call, w_prim, w_ix, w_sl, w_rev, w_pop, w_popAt, w_app, w_att, w_prop, w_mk, e_nop, e_int, e_var, e_bin, i_seq, a_rng, rngA_int, a_rng2, rngB_int, a_zip, zipA_some, a_enum, enA_some, src_tsI, src_lsI, t_call, t_prim, tru_bl, opt_some, t_nop, List.getElem?_cons_zero, List.getElem?_cons_succ, setTg, setTgs, List.set_cons_zero, List.set_cons_succ, wp_ok, wipeE, len0, len1, len2, len3, len4, len5, len6, len7, len8, len9, len10, if_true, if_false, Bool.false_eq_true, eq_int, ne_int, gt_int, lt_int', le_int', ge_int', add_int, sub_int, abs_int, int_int, Option.map_some, src_lst, src_tup, ix_t0, ix_t1, ix_t2, ix_t3, ix_l0, ix_l1, ix_l2, is_non, and_true, true_and, w_minD, w_cut, ft0, ft1, ft2, ft3, ix_pr0, ix_pr1, tup_ints, is_false0, Bool.not_true, Bool.not_false, a_cat, mu1])
    rw [cat_at end_at (by simp)]
    (try simp only [List.cons_append, List.nil_append, w_var, t_var, w_int, w_str, w_bl, w_non, w_gl, w_bin, w_neg, t_cmp, w_cmp, t_chain, w_chain, t_isC, w_isC, w_isi, t_isi, t_bop1, t_bop, w_bop1, w_bop, t_nt, w_nt, w_ite, t_ite, w_nil, w_cons, a_tup, w_fz, w_mu, a_disp, a_comp, w_ofSeq, w_call, w_prim, w_ix, w_sl, w_rev, w_pop, w_popAt, w_app, w_att, w_prop, w_mk, e_nop, e_int, e_var, e_bin, i_seq, a_rng, rngA_int, a_rng2, rngB_int, a_zip, zipA_some, a_enum, enA_some, src_tsI, src_lsI, t_call, t_prim, tru_bl, opt_some, t_nop, List.getElem?_cons_zero, List.getElem?_cons_succ, setTg, setTgs, List.set_cons_zero, List.set_cons_succ, wp_ok, wipeE, len0, len1, len2, len3, len4, len5, len6, len7, len8, len9, len10, if_true, if_false, Bool.false_eq_true, eq_int, ne_int, gt_int, lt_int', le_int', ge_int', add_int, sub_int, abs_int, int_int, Option.map_some, src_lst, src_tup, ix_t0, ix_t1, ix_t2, ix_t3, ix_l0, ix_l1, ix_l2, is_non, and_true, true_and, w_minD, w_cut, ft0, ft1, ft2, ft3, ix_pr0, ix_pr1, tup_ints, is_false0, Bool.not_true, Bool.not_false, alloc])
    rw [kA_eq]
    (try simp only [List.cons_append, List.nil_append, w_var, t_var, w_int, w_str, w_bl, w_non, w_gl, w_bin, w_neg, t_cmp, w_cmp, t_chain, w_chain, t_isC, w_isC, w_isi, t_isi, t_bop1, t_bop, w_bop1, w_bop, t_nt, w_nt, w_ite, t_ite, w_nil, w_cons, a_tup, w_fz, w_mu, a_disp, a_comp, w_ofSeq, w_call, w_prim, w_ix, w_sl, w_rev, w_pop, w_popAt, w_app, w_att, w_prop, w_mk, e_nop, e_int, e_var, e_bin, i_seq, a_rng, rngA_int, a_rng2, rngB_int, a_zip, zipA_some, a_enum, enA_some, src_tsI, src_lsI, t_call, t_prim, tru_bl, opt_some, t_nop, List.getElem?_cons_zero, List.getElem?_cons_succ, setTg, setTgs, List.set_cons_zero, List.set_cons_succ, wp_ok, wipeE, len0, len1, len2, len3, len4, len5, len6, len7, len8, len9, len10, if_true, if_false, Bool.false_eq_true, eq_int, ne_int, gt_int, lt_int', le_int', ge_int', add_int, sub_int, abs_int, int_int, Option.map_some, src_lst, src_tup, ix_t0, ix_t1, ix_t2, ix_t3, ix_l0, ix_l1, ix_l2, is_non, and_true, true_and, w_minD, w_cut, ft0, ft1, ft2, ft3, ix_pr0, ix_pr1, tup_ints, is_false0, Bool.not_true, Bool.not_false])
    have i_ : ∀ (k : Nat) (i : Int), i.natAbs ≤ 7 → VOk k 0 (.int i) := fun k i h => vok_int ((Bd.of (k := 3) (m := 7) h (by decide)).mono (by decide))
    have e0 : VOk 4 0 (.tup []) := ⟨rfl, Nat.le_refl _⟩
    have zv : VOk 1 4 z0 := by
      rw [← hz]
      exact vok_rep (k := 0) (i_ 0 0 (by decide)) (by omega)
    have rv : VOk 2 7 r0 := by
      rw [← hr0]
      exact vok3 (i_ 1 0 (by decide)) (i_ 1 1 (by decide)) zv (by decide)
    generalize hvs : [mq, Tv.tup [.int 2, .tup []], .tup [.int 1, .tup []], .tup [.int 7, .tup []], .tup [.int 2, .tup (rep 12 [r0])], .tup [.int 2, .tup (rep 13 [r0])], .non, .tup [], .lst us, .dct] = vsa
    generalize hwb : [Tv.tup [.int 2, .tup [.tup [.int 1, .int 1, z0]]], .tup [.int 2, .tup [r0, .tup [.int 0, .int 2, z0]]], .tup [.bl true, .tup []], .tup [.int 2, .lst [r0]]] = vsb
    have ec : (mq :: Tv.tup [.int 2, .tup []] :: .tup [.int 1, .tup []] :: .tup [.int 7, .tup []] :: .tup [.int 2, .tup (rep 12 [r0])] :: .tup [.int 2, .tup (rep 13 [r0])] :: .non :: .tup [] :: .lst us :: .dct :: vsb) = vsa ++ vsb := by
      rw [← hvs]
      rfl
    rw [ec]
    have la : vsa.length = 10 := by rw [← hvs]; rfl
    have lb : vsb.length = 4 := by rw [← hwb]; rfl
    have two3 : 2 ≤ S3.length := d3.two
    have d4 : Dk (400 * dn.length + 1 + 100) (S3 ++ [Ob.lst vsa]) := d3.app
    generalize hS4 : S3 ++ [Ob.lst vsa] = S4 at *
    have two : 2 ≤ S4.length := d4.two
    have v0 : ∀ t ∈ vsa ++ vsb, VOk 8 1000 t := fun t ht => by
      rcases List.mem_append.mp ht with ht | ht
      · rw [← hvs] at ht
        simp only [List.mem_cons, List.not_mem_nil, or_false] at ht
        rcases ht with rfl | rfl | rfl | rfl | rfl | rfl | rfl | rfl | rfl | rfl
        · exact ⟨rOk_mono (by decide) (pln_rOk (Nat.le_refl _) mp), Nat.le_trans mb (by decide)⟩
        · exact (vok2 (B := 2) (i_ 4 2 (by decide)) e0 (by decide)).mono (by decide) (by decide)
        · exact (vok2 (B := 2) (i_ 4 1 (by decide)) e0 (by decide)).mono (by decide) (by decide)
        · exact (vok2 (B := 2) (i_ 4 7 (by decide)) e0 (by decide)).mono (by decide) (by decide)
        · exact (vok2 (B := 200) (i_ 3 2 (by decide)) (vok_rep (B := 100) rv (by decide)) (by decide)).mono (by decide) (by decide)
        · exact (vok2 (B := 200) (i_ 3 2 (by decide)) (vok_rep (B := 110) rv (by decide)) (by decide)).mono (by decide) (by decide)
        · exact ⟨rfl, Nat.zero_le _⟩
        · exact e0.mono (by decide) (by decide)
        · exact ub
        · exact ⟨rfl, Nat.zero_le _⟩
      · rw [← hwb] at ht
        simp only [List.mem_cons, List.not_mem_nil, or_false] at ht
        rcases ht with rfl | rfl | rfl | rfl
        · exact (vok2 (B := 100) (i_ 3 2 (by decide)) (vok1 (B := 20) (vok3 (B := 10) (i_ 1 1 (by decide)) (i_ 1 1 (by decide)) zv (by decide)) (by decide)) (by decide)).mono (by decide) (by decide)
        · exact (vok2 (B := 100) (i_ 3 2 (by decide)) (vok2 (B := 30) rv (vok3 (B := 10) (i_ 1 0 (by decide)) (i_ 1 2 (by decide)) zv (by decide)) (by decide)) (by decide)).mono (by decide) (by decide)
        · exact (vok2 (B := 10) (⟨rfl, Nat.le_refl _⟩ : VOk 4 0 (.bl true)) e0 (by decide)).mono (by decide) (by decide)
        · have lr : VOk 3 10 (.lst [r0]) := vok_lst (k := 2) (fun t ht => by rw [List.mem_singleton.mp ht]; exact rv.r) (by
            have := rv.b
            simp only [Tv.bulks]
            omega)
          exact (vok2 (B := 100) (i_ 3 2 (by decide)) lr (by decide)).mono (by decide) (by decide)
    have hx0 : (S4 ++ [Ob.lst (vsa ++ vsb)])[S4.length]? = some (.lst (vsa ++ vsb)) := end_at
    have lab : (vsa ++ vsb).length = 14 := by rw [List.length_append, la, lb]
    generalize vsa ++ vsb = vs0 at *
    rw [q_for]
    (try simp only [List.cons_append, List.nil_append, w_var, t_var, w_int, w_str, w_bl, w_non, w_gl, w_bin, w_neg, t_cmp, w_cmp, t_chain, w_chain, t_isC, w_isC, w_isi, t_isi, t_bop1, t_bop, w_bop1, w_bop, t_nt, w_nt, w_ite, t_ite, w_nil, w_cons, a_tup, w_fz, w_mu, a_disp, a_comp, w_ofSeq, w_call, w_prim, w_ix, w_sl, w_rev, w_pop, w_popAt, w_app, w_att, w_prop, w_mk, e_nop, e_int, e_var, e_bin, i_seq, a_rng, rngA_int, a_rng2, rngB_int, a_zip, zipA_some, a_enum, enA_some, src_tsI, src_lsI, t_call, t_prim, tru_bl, opt_some, t_nop, List.getElem?_cons_zero, List.getElem?_cons_succ, setTg, setTgs, List.set_cons_zero, List.set_cons_succ, wp_ok, wipeE, len0, len1, len2, len3, len4, len5, len6, len7, len8, len9, len10, if_true, if_false, Bool.false_eq_true, eq_int, ne_int, gt_int, lt_int', le_int', ge_int', add_int, sub_int, abs_int, int_int, Option.map_some, src_lst, src_tup, ix_t0, ix_t1, ix_t2, ix_t3, ix_l0, ix_l1, ix_l2, is_non, and_true, true_and, w_minD, w_cut, ft0, ft1, ft2, ft3, ix_pr0, ix_pr1, tup_ints, is_false0, Bool.not_true, Bool.not_false])
    refine ⟨by decide, ?_⟩
    rw [rngT_map, kF_eq]
    refine for_on (fun dn2 r2 env S' => ∃ vs, ∃ j2 j7 j8 j9 : Option Tv, env = [some (.scr (ns.map Tv.int)), some (.cell 1), j2, some (.int n), some mq, some r0, some (.cell S4.length), j7, j8, j9] ∧ dn2.length + r2.length = 5 ∧
        S'[S4.length]? = some (.lst vs) ∧ vs.length = 14 + dn2.length ∧ (∀ t ∈ vs, VOk 8 1000 t) ∧ Dk (400 * dn.length + 101 + 50 * dn2.length) S') (fun _ _ _ _ _ => rfl) ?_ ?_
      ⟨vs0, _, _, _, _, rfl, by decide, hx0, by omega, v0, d4.app⟩
    · rintro dn2 x2 r2 env S5 - ⟨vs, j2, j7, j8, j9, rfl, hl2, hc, hvl, hv, d5⟩
      simp only [List.length_cons] at hl2
      (try simp only [List.cons_append, List.nil_append, w_var, t_var, w_int, w_str, w_bl, w_non, w_gl, w_bin, w_neg, t_cmp, w_cmp, t_chain, w_chain, t_isC, w_isC, w_isi, t_isi, t_bop1, t_bop, w_bop1, w_bop, t_nt, w_nt, w_ite, t_ite, w_nil, w_cons, a_tup, w_fz, w_mu, a_disp, a_comp, w_ofSeq, w_call, w_prim, w_ix, w_sl, w_rev, w_pop, w_popAt, w_app, w_att, w_prop, w_mk, e_nop, e_int, e_var, e_bin, i_seq, a_rng, rngA_int, a_rng2, rngB_int, a_zip, zipA_some, a_enum, enA_some, src_tsI, src_lsI, t_call, t_prim, tru_bl, opt_some, t_nop, List.getElem?_cons_zero, List.getElem?_cons_succ, setTg, setTgs, List.set_cons_zero, List.set_cons_succ, wp_ok, wipeE, len0, len1, len2, len3, len4, len5, len6, len7, len8, len9, len10, if_true, if_false, Bool.false_eq_true, eq_int, ne_int, gt_int, lt_int', le_int', ge_int', add_int, sub_int, abs_int, int_int, Option.map_some, src_lst, src_tup, ix_t0, ix_t1, ix_t2, ix_t3, ix_l0, ix_l1, ix_l2, is_non, and_true, true_and, w_minD, w_cut, ft0, ft1, ft2, ft3, ix_pr0, ix_pr1, tup_ints, is_false0, Bool.not_true, Bool.not_false])
      rw [q_drop]
      (try simp only [List.cons_append, List.nil_append, w_var, t_var, w_int, w_str, w_bl, w_non, w_gl, w_bin, w_neg, t_cmp, w_cmp, t_chain, w_chain, t_isC, w_isC, w_isi, t_isi, t_bop1, t_bop, w_bop1, w_bop, t_nt, w_nt, w_ite, t_ite, w_nil, w_cons, a_tup, w_fz, w_mu, a_disp, a_comp, w_ofSeq, w_call, w_prim, w_ix, w_sl, w_rev, w_pop, w_popAt, w_app, w_att, w_prop, w_mk, e_nop, e_int, e_var, e_bin, i_seq, a_rng, rngA_int, a_rng2, rngB_int, a_zip, zipA_some, a_enum, enA_some, src_tsI, src_lsI, t_call, t_prim, tru_bl, opt_some, t_nop, List.getElem?_cons_zero, List.getElem?_cons_succ, setTg, setTgs, List.set_cons_zero, List.set_cons_succ, wp_ok, wipeE, len0, len1, len2, len3, len4, len5, len6, len7, len8, len9, len10, if_true, if_false, Bool.false_eq_true, eq_int, ne_int, gt_int, lt_int', le_int', ge_int', add_int, sub_int, abs_int, int_int, Option.map_some, src_lst, src_tup, ix_t0, ix_t1, ix_t2, ix_t3, ix_l0, ix_l1, ix_l2, is_non, and_true, true_and, w_minD, w_cut, ft0, ft1, ft2, ft3, ix_pr0, ix_pr1, tup_ints, is_false0, Bool.not_true, Bool.not_false, need_at hc])
      refine wp_mono (d164 S5 _ 4 _ d5 mp (by decide) (by omega) (by omega)) ?_
      rintro t S6 ⟨vt, d6', g6⟩
      have hc6 := g6.own hc two
      rw [app_at hc6 (by omega)]
      rw [kD_eq, exs_nil]
      have hlt : S4.length < S6.length := (List.getElem?_eq_some_iff.mp hc6).1
      refine ⟨vs ++ [t], _, _, _, _, rfl, by rw [List.length_append, List.length_singleton]; omega, by rw [List.getElem?_set_self hlt], by rw [List.length_append, List.length_append, List.length_singleton, List.length_singleton]; omega, fun u hu => ?_, ?_⟩
      · rcases List.mem_append.mp hu with h | h
        · exact hv u h
        · rw [List.mem_singleton.mp h]
          exact vt.mono (by omega) (by omega)
      · have := d6'.set (o := .lst (vs ++ [t])) two
        exact this.mono (by rw [List.length_append, List.length_singleton]; omega)
    · rintro env S5 ⟨vs, j2, j7, j8, j9, rfl, hl2, hc, hvl, hv, d5⟩
      show kR _ _ _ _ _ _
      rw [kR_eq, q_for]
      (try simp only [List.cons_append, List.nil_append, w_var, t_var, w_int, w_str, w_bl, w_non, w_gl, w_bin, w_neg, t_cmp, w_cmp, t_chain, w_chain, t_isC, w_isC, w_isi, t_isi, t_bop1, t_bop, w_bop1, w_bop, t_nt, w_nt, w_ite, t_ite, w_nil, w_cons, a_tup, w_fz, w_mu, a_disp, a_comp, w_ofSeq, w_call, w_prim, w_ix, w_sl, w_rev, w_pop, w_popAt, w_app, w_att, w_prop, w_mk, e_nop, e_int, e_var, e_bin, i_seq, a_rng, rngA_int, a_rng2, rngB_int, a_zip, zipA_some, a_enum, enA_some, src_tsI, src_lsI, t_call, t_prim, tru_bl, opt_some, t_nop, List.getElem?_cons_zero, List.getElem?_cons_succ, setTg, setTgs, List.set_cons_zero, List.set_cons_succ, wp_ok, wipeE, len0, len1, len2, len3, len4, len5, len6, len7, len8, len9, len10, if_true, if_false, Bool.false_eq_true, eq_int, ne_int, gt_int, lt_int', le_int', ge_int', add_int, sub_int, abs_int, int_int, Option.map_some, src_lst, src_tup, ix_t0, ix_t1, ix_t2, ix_t3, ix_l0, ix_l1, ix_l2, is_non, and_true, true_and, w_minD, w_cut, ft0, ft1, ft2, ft3, ix_pr0, ix_pr1, tup_ints, is_false0, Bool.not_true, Bool.not_false, src_cell hc])
      rw [kF_eq]
      refine for_id (fun _ _ env S' => S' = S5 ∧ ∃ j2 j7 j8 j9 : Option Tv, env = [some (.scr (ns.map Tv.int)), some (.cell 1), j2, some (.int n), some mq, some r0, some (.cell S4.length), j7, j8, j9])
        (fun _ _ _ _ h => by rw [h.1]; exact stays_cell hc) ?_ ?_ ⟨rfl, _, _, _, _, rfl⟩
      · rintro dn3 t r3 env S6 hx ⟨rfl, j2, j7, j8, j9, rfl⟩
        have vt := hv t (by rw [hx]; simp)
        have r1 : ∀ S, primV .repr S [t] = some (.str (Tv.shown t)) := fun S => vt.repr (by decide) (by decide)
        have r2 : ∀ S, primV .repr S [mapErr n t] = some (.str (Tv.shown (mapErr n t))) := fun S => mapErr_v.repr (by decide) (by decide)
        (try simp only [List.cons_append, List.nil_append, w_var, t_var, w_int, w_str, w_bl, w_non, w_gl, w_bin, w_neg, t_cmp, w_cmp, t_chain, w_chain, t_isC, w_isC, w_isi, t_isi, t_bop1, t_bop, w_bop1, w_bop, t_nt, w_nt, w_ite, t_ite, w_nil, w_cons, a_tup, w_fz, w_mu, a_disp, a_comp, w_ofSeq, w_call, w_prim, w_ix, w_sl, w_rev, w_pop, w_popAt, w_app, w_att, w_prop, w_mk, e_nop, e_int, e_var, e_bin, i_seq, a_rng, rngA_int, a_rng2, rngB_int, a_zip, zipA_some, a_enum, enA_some, src_tsI, src_lsI, t_call, t_prim, tru_bl, opt_some, t_nop, List.getElem?_cons_zero, List.getElem?_cons_succ, setTg, setTgs, List.set_cons_zero, List.set_cons_succ, wp_ok, wipeE, len0, len1, len2, len3, len4, len5, len6, len7, len8, len9, len10, if_true, if_false, Bool.false_eq_true, eq_int, ne_int, gt_int, lt_int', le_int', ge_int', add_int, sub_int, abs_int, int_int, Option.map_some, src_lst, src_tup, ix_t0, ix_t1, ix_t2, ix_t3, ix_l0, ix_l1, ix_l2, is_non, and_true, true_and, w_minD, w_cut, ft0, ft1, ft2, ft3, ix_pr0, ix_pr1, tup_ints, is_false0, Bool.not_true, Bool.not_false])
        rw [q_asg]
        (try simp only [List.cons_append, List.nil_append, w_var, t_var, w_int, w_str, w_bl, w_non, w_gl, w_bin, w_neg, t_cmp, w_cmp, t_chain, w_chain, t_isC, w_isC, w_isi, t_isi, t_bop1, t_bop, w_bop1, w_bop, t_nt, w_nt, w_ite, t_ite, w_nil, w_cons, a_tup, w_fz, w_mu, a_disp, a_comp, w_ofSeq, w_call, w_prim, w_ix, w_sl, w_rev, w_pop, w_popAt, w_app, w_att, w_prop, w_mk, e_nop, e_int, e_var, e_bin, i_seq, a_rng, rngA_int, a_rng2, rngB_int, a_zip, zipA_some, a_enum, enA_some, src_tsI, src_lsI, t_call, t_prim, tru_bl, opt_some, t_nop, List.getElem?_cons_zero, List.getElem?_cons_succ, setTg, setTgs, List.set_cons_zero, List.set_cons_succ, wp_ok, wipeE, len0, len1, len2, len3, len4, len5, len6, len7, len8, len9, len10, if_true, if_false, Bool.false_eq_true, eq_int, ne_int, gt_int, lt_int', le_int', ge_int', add_int, sub_int, abs_int, int_int, Option.map_some, src_lst, src_tup, ix_t0, ix_t1, ix_t2, ix_t3, ix_l0, ix_l1, ix_l2, is_non, and_true, true_and, w_minD, w_cut, ft0, ft1, ft2, ft3, ix_pr0, ix_pr1, tup_ints, is_false0, Bool.not_true, Bool.not_false, r1])
        rw [kA_eq]
        (try simp only [List.cons_append, List.nil_append, w_var, t_var, w_int, w_str, w_bl, w_non, w_gl, w_bin, w_neg, t_cmp, w_cmp, t_chain, w_chain, t_isC, w_isC, w_isi, t_isi, t_bop1, t_bop, w_bop1, w_bop, t_nt, w_nt, w_ite, t_ite, w_nil, w_cons, a_tup, w_fz, w_mu, a_disp, a_comp, w_ofSeq, w_call, w_prim, w_ix, w_sl, w_rev, w_pop, w_popAt, w_app, w_att, w_prop, w_mk, e_nop, e_int, e_var, e_bin, i_seq, a_rng, rngA_int, a_rng2, rngB_int, a_zip, zipA_some, a_enum, enA_some, src_tsI, src_lsI, t_call, t_prim, tru_bl, opt_some, t_nop, List.getElem?_cons_zero, List.getElem?_cons_succ, setTg, setTgs, List.set_cons_zero, List.set_cons_succ, wp_ok, wipeE, len0, len1, len2, len3, len4, len5, len6, len7, len8, len9, len10, if_true, if_false, Bool.false_eq_true, eq_int, ne_int, gt_int, lt_int', le_int', ge_int', add_int, sub_int, abs_int, int_int, Option.map_some, src_lst, src_tup, ix_t0, ix_t1, ix_t2, ix_t3, ix_l0, ix_l1, ix_l2, is_non, and_true, true_and, w_minD, w_cut, ft0, ft1, ft2, ft3, ix_pr0, ix_pr1, tup_ints, is_false0, Bool.not_true, Bool.not_false])
        rw [q_if]
        (try simp only [List.cons_append, List.nil_append, w_var, t_var, w_int, w_str, w_bl, w_non, w_gl, w_bin, w_neg, t_cmp, w_cmp, t_chain, w_chain, t_isC, w_isC, w_isi, t_isi, t_bop1, t_bop, w_bop1, w_bop, t_nt, w_nt, w_ite, t_ite, w_nil, w_cons, a_tup, w_fz, w_mu, a_disp, a_comp, w_ofSeq, w_call, w_prim, w_ix, w_sl, w_rev, w_pop, w_popAt, w_app, w_att, w_prop, w_mk, e_nop, e_int, e_var, e_bin, i_seq, a_rng, rngA_int, a_rng2, rngB_int, a_zip, zipA_some, a_enum, enA_some, src_tsI, src_lsI, t_call, t_prim, tru_bl, opt_some, t_nop, List.getElem?_cons_zero, List.getElem?_cons_succ, setTg, setTgs, List.set_cons_zero, List.set_cons_succ, wp_ok, wipeE, len0, len1, len2, len3, len4, len5, len6, len7, len8, len9, len10, if_true, if_false, Bool.false_eq_true, eq_int, ne_int, gt_int, lt_int', le_int', ge_int', add_int, sub_int, abs_int, int_int, Option.map_some, src_lst, src_tup, ix_t0, ix_t1, ix_t2, ix_t3, ix_l0, ix_l1, ix_l2, is_non, and_true, true_and, w_minD, w_cut, ft0, ft1, ft2, ft3, ix_pr0, ix_pr1, tup_ints, is_false0, Bool.not_true, Bool.not_false, d147 _ t n 8 vt.r (by omega), d161 _ t n 8 vt.r hm1.1 (by omega), r1, r2, ne_str])
        rw [kI_f, List.nil_append, exs_nil]
        exact ⟨rfl, _, _, _, _, rfl⟩
      · rintro env S6 ⟨rfl, j2, j7, j8, j9, rfl⟩
        show kR _ _ _ _ _ _
        rw [kR_eq, exs_nil]
        exact ⟨d5.mono (by rw [List.length_append, List.length_singleton]; omega), by rw [List.length_append, List.length_singleton]; omega, _, _, _, _, _, _, _, _, rfl⟩
  · rintro env S ⟨d, hlen, j2, j3, j4, j5, j6, j7, j8, j9, rfl⟩
    show kR _ _ _ _ _ _
    rw [kR_eq, q_ret]
    (try simp only [List.cons_append, List.nil_append, w_var, t_var, w_int, w_str, w_bl, w_non, w_gl, w_bin, w_neg, t_cmp, w_cmp, t_chain, w_chain, t_isC, w_isC, w_isi, t_isi, t_bop1, t_bop, w_bop1, w_bop, t_nt, w_nt, w_ite, t_ite, w_nil, w_cons, a_tup, w_fz, w_mu, a_disp, a_comp, w_ofSeq, w_call, w_prim, w_ix, w_sl, w_rev, w_pop, w_popAt, w_app, w_att, w_prop, w_mk, e_nop, e_int, e_var, e_bin, i_seq, a_rng, rngA_int, a_rng2, rngB_int, a_zip, zipA_some, a_enum, enA_some, src_tsI, src_lsI, t_call, t_prim, tru_bl, opt_some, t_nop, List.getElem?_cons_zero, List.getElem?_cons_succ, setTg, setTgs, List.set_cons_zero, List.set_cons_succ, wp_ok, wipeE, len0, len1, len2, len3, len4, len5, len6, len7, len8, len9, len10, if_true, if_false, Bool.false_eq_true, eq_int, ne_int, gt_int, lt_int', le_int', ge_int', add_int, sub_int, abs_int, int_int, Option.map_some, src_lst, src_tup, ix_t0, ix_t1, ix_t2, ix_t3, ix_l0, ix_l1, ix_l2, is_non, and_true, true_and, w_minD, w_cut, ft0, ft1, ft2, ft3, ix_pr0, ix_pr1, tup_ints, is_false0, Bool.not_true, Bool.not_false])
end Mp
noncomputable section
namespace Mk
open PySem L2 PySem.Spec PyProof.Rows Mp
def top (i : Nat) : Stmt := PySem.Challenge.pw_ratherroad_k08_what_is_no_map.main.body.getD i (.Pass ⟨0, 0, 0, 0⟩)
def eLawDeck : En := { x := "_law_deck", i := 6, N := ["_law_script", "_law_cells", "_law_cell"], ps := ["_law_script"], d := xDeck, st := top 12, q := "_law_deck", rk := .fn }
def eLawDraw : En := { x := "_law_draw", i := 7, N := ["_law_deck_here", "_law_many", "_law_cell", "_law_mixed", "_law_rest"], ps := ["_law_deck_here", "_law_many"], d := xDraw, st := top 13, q := "_law_draw", rk := .fn }
def eLawPick : En := { x := "_law_pick", i := 8, N := ["_law_deck_here", "_law_items"], ps := ["_law_deck_here", "_law_items"], d := (xPick 7), st := top 14, q := "_law_pick", rk := .fn }
def eLawWay : En := { x := "_law_way", i := 132, N := ["_law_deck_here", "_law_things", "_law_most", "_law_thing"], ps := ["_law_deck_here", "_law_things"], d := xLawWay, st := top 15, q := "_law_way", rk := .fn }
def eLawMap : En := { x := "_law_map", i := 136, N := ["_law_deck_here", "_law_things", "_law_road", "_law_places", "_law_roads", "_law_start", "_law_end"], ps := ["_law_deck_here", "_law_things"], d := xLawMap, st := top 20, q := "_law_map", rk := .fn }
def eLawOdd : En := { x := "_law_odd", i := 152, N := ["_law_deck_here", "_law_some"], ps := ["_law_deck_here"], d := xLawOdd, st := top 18, q := "_law_odd", rk := .fn }
def eLawBent0 : En := { x := "_law_bent", i := 153, N := ["_law_deck_here", "_law_value", "_law_deep", "_law_some", "_law_at"], ps := ["_law_deck_here", "_law_value", "_law_deep"], d := xLawBent0, st := top 19, q := "_law_bent", rk := .fn }
def eLawBent1 : En := { x := "_law_bent", i := 154, N := ["_law_deck_here", "_law_value", "_law_deep", "_law_some", "_law_at"], ps := ["_law_deck_here", "_law_value", "_law_deep"], d := xLawBent1, st := top 19, q := "_law_bent", rk := .fn }
def eLawBent2 : En := { x := "_law_bent", i := 155, N := ["_law_deck_here", "_law_value", "_law_deep", "_law_some", "_law_at"], ps := ["_law_deck_here", "_law_value", "_law_deep"], d := xLawBent2, st := top 19, q := "_law_bent", rk := .fn }
def eLawBent3 : En := { x := "_law_bent", i := 163, N := ["_law_deck_here", "_law_value", "_law_deep", "_law_some", "_law_at"], ps := ["_law_deck_here", "_law_value", "_law_deep"], d := xLawBent3, st := top 19, q := "_law_bent", rk := .fn }
def eLawBent4 : En := { x := "_law_bent", i := 164, N := ["_law_deck_here", "_law_value", "_law_deep", "_law_some", "_law_at"], ps := ["_law_deck_here", "_law_value", "_law_deep"], d := xLawBent4, st := top 19, q := "_law_bent", rk := .fn }
def eIsTuple : En := { x := "is_tuple", i := 41, N := ["value", "least", "most"], ps := ["value", "least", "most"], d := xIsTuple, st := top 4, q := "is_tuple", rk := .fn }
def eIsInteger : En := { x := "is_integer", i := 34, N := ["value", "least", "most"], ps := ["value", "least", "most"], d := xLawIsInt, st := top 3, q := "is_integer", rk := .fn }
def eAreIntegers : En := { x := "are_integers", i := 44, N := ["value", "many", "most", "one"], ps := ["value", "many", "most"], d := xAreIntegers, st := top 5, q := "are_integers", rk := .fn }
def eIsWay : En := { x := "is_way", i := 145, N := ["things", "value"], ps := ["things", "value"], d := xIsWay, st := top 7, q := "is_way", rk := .fn }
def eIsRoad : En := { x := "is_road", i := 146, N := ["things", "places", "value"], ps := ["things", "places", "value"], d := xIsRoad, st := top 9, q := "is_road", rk := .fn }
def eMapError : En := { x := "map_error", i := 147, N := ["things", "value", "index", "road"], ps := ["things", "value"], d := xMapError, st := top 10, q := "map_error", rk := .fn }
def eLawIsInt : En := { x := "_law_is_int", i := 159, N := ["_law_value", "_law_least", "_law_most"], ps := ["_law_value", "_law_least", "_law_most"], d := xLawIsInt, st := top 16, q := "_law_is_int", rk := .fn }
def eLawIsWay : En := { x := "_law_is_way", i := 120, N := ["_law_things", "_law_value", "_law_count"], ps := ["_law_things", "_law_value"], d := xLawIsWay, st := top 17, q := "_law_is_way", rk := .fn }
def eLawIsRoad : En := { x := "_law_is_road", i := 160, N := ["_law_things", "_law_places", "_law_value"], ps := ["_law_things", "_law_places", "_law_value"], d := xLawIsRoad, st := top 21, q := "_law_is_road", rk := .fn }
def eLawMapWord : En := { x := "_law_map_word", i := 161, N := ["_law_things", "_law_value", "_law_index", "_law_road"], ps := ["_law_things", "_law_value"], d := xLawMapWord, st := top 22, q := "_law_map_word", rk := .fn }
def eLaw : En := { x := "law", i := 165, N := ["_law_script", "_law_deck_here", "_law_turn", "_law_things", "_law_roadmap", "_law_road", "_law_values", "_law_again", "_law_value", "_law_shown"], ps := ["_law_script"], d := xLaw_k08, st := top 23, q := "law", rk := .fn }
def cls : List (Str × List Str) := []
def r0 : List En := []
def r1 : List En := eLawDeck :: r0
def r2 : List En := eLawDraw :: r1
def r3 : List En := eLawPick :: r2
def r4 : List En := eLawWay :: r3
def r5 : List En := eLawMap :: r4
def r6 : List En := eLawOdd :: r5
def r7 : List En := eLawBent0 :: r6
def r8 : List En := eLawBent1 :: r7
def r9 : List En := eLawBent2 :: r8
def r10 : List En := eLawBent3 :: r9
def r11 : List En := eLawBent4 :: r10
def r12 : List En := eIsTuple :: r11
def r13 : List En := eIsInteger :: r12
def r14 : List En := eAreIntegers :: r13
def r15 : List En := eIsWay :: r14
def r16 : List En := eIsRoad :: r15
def r17 : List En := eMapError :: r16
def r18 : List En := eLawIsInt :: r17
def r19 : List En := eLawIsWay :: r18
def r20 : List En := eLawIsRoad :: r19
def r21 : List En := eLawMapWord :: r20
def tb : Tb := { fns := [], gls := [("MAX_PLACES", (.int 6)), ("MAX_ROADS", (.int 12))], bls := ["abs", "all", "bool", "enumerate", "int", "isinstance", "len", "list", "max", "range", "repr", "tuple"], kds := [("bool", .bool), ("int", .int), ("tuple", .tuple)], atts := [] }
theorem ab : AllB (eLaw :: r21) :=
  ⟨fun _ _ _ _ _ _ us hl => match us, hl with | [_], _ => rfl,
   fun _ _ _ _ _ _ us hl => match us, hl with | [_, _], _ => rfl,
   fun _ _ _ _ _ _ us hl => match us, hl with | [_, _, _], _ => rfl,
   fun _ _ _ _ _ _ us hl => match us, hl with | [_, _], _ => rfl,
   fun _ _ _ _ _ _ us hl => match us, hl with | [_, _, _], _ => rfl,
   fun _ _ _ _ _ _ us hl => match us, hl with | [_, _], _ => rfl,
   fun _ _ _ _ _ _ us hl => match us, hl with | [_, _, _], _ => rfl,
   fun _ _ _ _ _ _ us hl => match us, hl with | [_, _], _ => rfl,
   fun _ _ _ _ _ _ us hl => match us, hl with | [_, _, _], _ => rfl,
   fun _ _ _ _ _ _ us hl => match us, hl with | [_, _, _], _ => rfl,
   fun _ _ _ _ _ _ us hl => match us, hl with | [_, _, _], _ => rfl,
   fun _ _ _ _ _ _ us hl => match us, hl with | [_, _, _], _ => rfl,
   fun _ _ _ _ _ _ us hl => match us, hl with | [_, _, _], _ => rfl,
   fun _ _ _ _ _ _ us hl => match us, hl with | [_, _, _], _ => rfl,
   fun _ _ _ _ _ _ us hl => match us, hl with | [_, _, _], _ => rfl,
   fun _ _ _ _ _ _ us hl => match us, hl with | [_, _, _], _ => rfl,
   fun _ _ _ _ _ _ us hl => match us, hl with | [_], _ => rfl,
   fun _ _ _ _ _ _ us hl => match us, hl with | [_, _], _ => rfl,
   fun _ _ _ _ _ _ us hl => match us, hl with | [_, _], _ => rfl,
   fun _ _ _ _ _ _ us hl => match us, hl with | [_, _], _ => rfl,
   fun _ _ _ _ _ _ us hl => match us, hl with | [_, _], _ => rfl,
   fun _ _ _ _ _ _ us hl => match us, hl with | [_], _ => rfl, trivial⟩
theorem okk : okAll tb cls (eLaw :: r21) = true := by decide +kernel
theorem hL : eLaw.d = xLaw_k08 := rfl
theorem h2_7 : tab r2 7 = runD (tab r1) xDraw := by kernel_rfl
theorem h3_7 : tab r3 7 = runD (tab r1) xDraw := by kernel_rfl
theorem h3_8 : tab r3 8 = runD (tab r2) (xPick 7) := by kernel_rfl
theorem h4_7 : tab r4 7 = runD (tab r1) xDraw := by kernel_rfl
theorem h4_8 : tab r4 8 = runD (tab r2) (xPick 7) := by kernel_rfl
theorem h4_132 : tab r4 132 = runD (tab r3) xLawWay := by kernel_rfl
theorem h5_8 : tab r5 8 = runD (tab r2) (xPick 7) := by kernel_rfl
theorem h6_7 : tab r6 7 = runD (tab r1) xDraw := by kernel_rfl
theorem h6_8 : tab r6 8 = runD (tab r2) (xPick 7) := by kernel_rfl
theorem h6_152 : tab r6 152 = runD (tab r5) xLawOdd := by kernel_rfl
theorem h7_7 : tab r7 7 = runD (tab r1) xDraw := by kernel_rfl
theorem h7_8 : tab r7 8 = runD (tab r2) (xPick 7) := by kernel_rfl
theorem h7_152 : tab r7 152 = runD (tab r5) xLawOdd := by kernel_rfl
theorem h7_153 : tab r7 153 = runD (tab r6) xLawBent0 := by kernel_rfl
theorem h8_7 : tab r8 7 = runD (tab r1) xDraw := by kernel_rfl
theorem h8_8 : tab r8 8 = runD (tab r2) (xPick 7) := by kernel_rfl
theorem h8_152 : tab r8 152 = runD (tab r5) xLawOdd := by kernel_rfl
theorem h8_154 : tab r8 154 = runD (tab r7) xLawBent1 := by kernel_rfl
theorem h9_7 : tab r9 7 = runD (tab r1) xDraw := by kernel_rfl
theorem h9_8 : tab r9 8 = runD (tab r2) (xPick 7) := by kernel_rfl
theorem h9_152 : tab r9 152 = runD (tab r5) xLawOdd := by kernel_rfl
theorem h9_155 : tab r9 155 = runD (tab r8) xLawBent2 := by kernel_rfl
theorem h10_7 : tab r10 7 = runD (tab r1) xDraw := by kernel_rfl
theorem h10_8 : tab r10 8 = runD (tab r2) (xPick 7) := by kernel_rfl
theorem h10_152 : tab r10 152 = runD (tab r5) xLawOdd := by kernel_rfl
theorem h10_163 : tab r10 163 = runD (tab r9) xLawBent3 := by kernel_rfl
theorem h13_34 : tab r13 34 = runD (tab r12) xLawIsInt := by kernel_rfl
theorem h13_41 : tab r13 41 = runD (tab r11) xIsTuple := by kernel_rfl
theorem h14_44 : tab r14 44 = runD (tab r13) xAreIntegers := by kernel_rfl
theorem h15_34 : tab r15 34 = runD (tab r12) xLawIsInt := by kernel_rfl
theorem h15_41 : tab r15 41 = runD (tab r11) xIsTuple := by kernel_rfl
theorem h15_145 : tab r15 145 = runD (tab r14) xIsWay := by kernel_rfl
theorem h16_34 : tab r16 34 = runD (tab r12) xLawIsInt := by kernel_rfl
theorem h16_41 : tab r16 41 = runD (tab r11) xIsTuple := by kernel_rfl
theorem h16_146 : tab r16 146 = runD (tab r15) xIsRoad := by kernel_rfl
theorem h19_120 : tab r19 120 = runD (tab r18) xLawIsWay := by kernel_rfl
theorem h19_159 : tab r19 159 = runD (tab r17) xLawIsInt := by kernel_rfl
theorem h20_159 : tab r20 159 = runD (tab r17) xLawIsInt := by kernel_rfl
theorem h20_160 : tab r20 160 = runD (tab r19) xLawIsRoad := by kernel_rfl
theorem h21_6 : tab r21 6 = runD (tab r0) xDeck := by kernel_rfl
theorem h21_7 : tab r21 7 = runD (tab r1) xDraw := by kernel_rfl
theorem h21_136 : tab r21 136 = runD (tab r4) xLawMap := by kernel_rfl
theorem h21_147 : tab r21 147 = runD (tab r16) xMapError := by kernel_rfl
theorem h21_161 : tab r21 161 = runD (tab r20) xLawMapWord := by kernel_rfl
theorem h21_164 : tab r21 164 = runD (tab r10) xLawBent4 := by kernel_rfl
abbrev lz : List Str := (["is_integer", "is_tuple", "are_integers", "is_way", "is_road", "map_error", "_law_deck", "_law_draw", "_law_pick", "_law_way", "_law_is_int", "_law_is_way", "_law_odd", "_law_bent", "_law_map", "_law_is_road", "_law_map_word", "MAX_PLACES", "MAX_ROADS"] : List Str)
abbrev lw : PySem.W.OpenLaw := PySem.Challenge.rw_ratherroad_k08_what_is_no_map
abbrev R : PySem.W.OpenRow := PySem.W.OpenLaw.row lw
def q : Ask := askOf tb cls (eLaw :: r21)
def places : List Addr := 3 :: 6 :: 4 :: List.range 800
abbrev hk : PySem.W.Hook := hookL places q
def ob (s : PySem.W.SharedT) : AlM := obsL places q (HandSHeadRun.getT s)
theorem ob_eq (s : PySem.W.SharedT) : ob s = hk.obs s.abs := obsL_eq (HandSHeadRun.getT_eq s)
theorem run (w : World) : HandSHeadRun.RunEq R (PySem.W.view R.prog [23]) hk ob 6000 lz w := by
  intro os
  kernel_rfl
theorem s6 : S6 (runD (tab r0) xDeck) := ok6
theorem s7 : S7 (runD (tab r1) xDraw) := ok7
theorem s8 : S8 (runD (tab r2) (xPick 7)) := ok8 (by rw [h2_7]; exact s7)
theorem s132 : S132 (runD (tab r3) xLawWay) := ok132 (by rw [h3_7]; exact s7) (by rw [h3_8]; exact s8)
theorem s136 : S136 (runD (tab r4) xLawMap) := ok136 (by rw [h4_7]; exact s7) (by rw [h4_8]; exact s8) (by rw [h4_132]; exact s132)
theorem s152 : S152 (runD (tab r5) xLawOdd) := ok152 (by rw [h5_8]; exact s8)
theorem s153 : S153 (runD (tab r6) xLawBent0) := ok153 (by rw [h6_7]; exact s7) (by rw [h6_8]; exact s8) (by rw [h6_152]; exact s152)
theorem s154 : S154 (runD (tab r7) xLawBent1) := ok154 (by rw [h7_7]; exact s7) (by rw [h7_8]; exact s8) (by rw [h7_152]; exact s152) (by rw [h7_153]; exact s153)
theorem s155 : S155 (runD (tab r8) xLawBent2) := ok155 (by rw [h8_7]; exact s7) (by rw [h8_8]; exact s8) (by rw [h8_152]; exact s152) (by rw [h8_154]; exact s154)
theorem s163 : S163 (runD (tab r9) xLawBent3) := ok163 (by rw [h9_7]; exact s7) (by rw [h9_8]; exact s8) (by rw [h9_152]; exact s152) (by rw [h9_155]; exact s155)
theorem s164 : S164 (runD (tab r10) xLawBent4) := ok164 (by rw [h10_7]; exact s7) (by rw [h10_8]; exact s8) (by rw [h10_152]; exact s152) (by rw [h10_163]; exact s163)
theorem s41c : S41c (runD (tab r11) xIsTuple) := ok41c
theorem s34c : S34c (runD (tab r12) xLawIsInt) := ok34c
theorem s44c : S44c (runD (tab r13) xAreIntegers) := ok44c (by rw [h13_34]; exact s34c) (by rw [h13_41]; exact s41c)
theorem s145c : S145c (runD (tab r14) xIsWay) := ok145c (by rw [h14_44]; exact s44c)
theorem s146c : S146c (runD (tab r15) xIsRoad) := ok146c (by rw [h15_34]; exact s34c) (by rw [h15_41]; exact s41c) (by rw [h15_145]; exact s145c)
theorem s147c : S147c (runD (tab r16) xMapError) := ok147c (by rw [h16_34]; exact s34c) (by rw [h16_41]; exact s41c) (by rw [h16_146]; exact s146c)
theorem s159 : S159 (runD (tab r17) xLawIsInt) := ok159
theorem s120c : S120c (runD (tab r18) xLawIsWay) := ok120c
theorem s160 : S160 (runD (tab r19) xLawIsRoad) := ok160 (by rw [h19_120]; exact s120c) (by rw [h19_159]; exact s159)
theorem s161 : S161 (runD (tab r20) xLawMapWord) := ok161 (by rw [h20_159]; exact s159) (by rw [h20_160]; exact s160)
theorem plainF (ns : List Int) (hl : ns.length ≤ 63) : ∃ S', runD (tab r21) eLaw.d [.scr (ns.map Tv.int)] [] = .ok (.bl true) S' := by
  rw [hL]
  exact law_k08 hl (by rw [h21_6]; exact s6) (by rw [h21_7]; exact s7) (by rw [h21_136]; exact s136) (by rw [h21_147]; exact s147c) (by rw [h21_161]; exact s161) (by rw [h21_164]; exact s164)
end Mk
open PySem PySem.W PySem.Calls PyProof.Rows
theorem head_ (law : ∀ ns : List Int, ns.length ≤ 63 → (∀ k ∈ ns, Builtin.Int.intBits k ≤ 1048576) → ∃ S', Mp.runD (Mp.tab Mk.r21) Mk.eLaw.d [.scr (ns.map Mp.Tv.int)] [] = .ok (.bl true) S') : Mk.lw.Holds := by
  w_on; o_law
  refine HandSHeadRun.head_any (r := Mk.R) (q := view Mk.R.prog [23]) (H := Mk.hk) (ob := Mk.ob) (M := 6000) (loose := Mk.lz) (d := HandSHeadRun.topDef Mk.R.prog 23) (kwd := []) Mk.ob_eq
    (by kernel_rfl) (fun s => by kernel_rfl) Mk.run (by kernel_rfl) (by kernel_rfl) (by kernel_rfl) (by rfl) (by first | assumption | decide +kernel) (by decide +kernel) ⟨rfl, rfl, rfl, rfl, rfl, by decide +kernel⟩ ?hw ?hc
  case hw => w_witness2
  case hc => exact Mp.walkM (N0 := 0) (l := Mk.lw) (n := 63) (x := "_law_script") (e := Mk.eLaw) (r := Mk.r21) (T := Mk.tb) (cls := Mk.cls) rfl (by decide) (by kernel_rfl) ⟨rfl, by decide, by decide⟩ rfl (by kernel_rfl) rfl rfl Mk.ab Mk.okk (by decide) (by decide) (by decide) (by decide) (by decide) (by decide) law
theorem PySem.Challenge.cw_ratherroad_k08_what_is_no_map_holds : PySem.Challenge.rw_ratherroad_k08_what_is_no_map.Holds :=
  head_ fun ns h _ => Mk.plainF ns h
