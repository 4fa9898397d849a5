import PyProof.Rows.All
import HandS.ForMost
import HandS.ForExc
import HandS.ExcInit
import HandS.ExcIs
import HandS.WordsExc
import HandS.Lambda
import HandS.Wide
import HandS.WideBits
import HandS.Gcd
import HandS.TupAny
import HandS.TupMul
import HandS.Style
import HandS.Deep
import HandS.Flow
import HandS.Conv
import HandS.Zip
import HandS.SortInts
import HandS.IsInst
import HandS.RaiseMore
import HandS.ExcField
import HandS.Defaults
import KE.KExcIs
import HandS.HeadHook4
import HandS.Dict
import HandS.NoneIn
import HandS.EndTab
import HandS.HeadWalk
import HandS.TryOnly
import PySem.Challenge.RW_wholecorners_k32_webs_and_components
import HandS.Head0
import HandS.Head1
import HandS.Head2
import HandS.Head3
import HandS.HeadEnd
set_option Elab.async false
set_option linter.all false
/-! VCa: values without addresses, a small language without places, what it computes. -/
namespace VC
open PySem

/-! ### values -/
inductive D where
  | non
  | bl (b : Bool)
  | int (i : Int)
  | str (s : Str)
  | tup (l : List D)
  | lst (l : List D)
  | dic (l : List (L2.Key × D))
  | obj (c : Nat) (l : List D)
  | pen
  | lam (k : Nat)

mutual
def D.py : D → PyData
  | .non => .none
  | .bl b => .bool b
  | .int i => .int i
  | .str s => .str s
  | .tup l => .tuple (pys l)
  | .lst l => .list (pys l)
  | .dic l => .dict (pykvs l)
  | .obj _ _ => .none
  | .pen => .none
  | .lam _ => .none
def pys : List D → List PyData
  | [] => []
  | d :: ds => d.py :: pys ds
def pykvs : List (L2.Key × D) → List (PyData × PyData)
  | [] => []
  | (k, d) :: ds => ((match k with | .inl i => PyData.int i | .inr s => PyData.str s), d.py) :: pykvs ds
end
mutual
/-- nothing but data within -/
def D.plain : D → Bool
  | .non => true
  | .bl _ => true
  | .int _ => true
  | .str _ => true
  | .tup l => plains l
  | .lst l => plains l
  | .dic l => plainkvs l
  | .obj _ _ => false
  | .pen => false
  | .lam _ => false
def plains : List D → Bool
  | [] => true
  | d :: ds => d.plain && plains ds
def plainkvs : List (L2.Key × D) → Bool
  | [] => true
  | (_, d) :: ds => d.plain && plainkvs ds
end

mutual
/-- no lambda within -/
def D.still : D → Bool
  | .tup l => stills l
  | .lst l => stills l
  | .dic l => stillkvs l
  | .obj _ l => stills l
  | .lam _ => false
  | _ => true
def stills : List D → Bool
  | [] => true
  | d :: ds => d.still && stills ds
def stillkvs : List (L2.Key × D) → Bool
  | [] => true
  | (_, d) :: ds => d.still && stillkvs ds
end

mutual
/-- no list within -/
def D.noL : D → Bool
  | .tup l => noLs l
  | .lst _ => false
  | .dic l => noLkvs l
  | .obj _ l => noLs l
  | _ => true
def noLs : List D → Bool
  | [] => true
  | d :: ds => d.noL && noLs ds
def noLkvs : List (L2.Key × D) → Bool
  | [] => true
  | (_, d) :: ds => d.noL && noLkvs ds
end
/-- a key that is written -/
inductive Kc where
  | i (n : Int)
  | s (z : String)
  deriving DecidableEq
def Kc.key : Kc → L2.Key
  | .i n => .inl n
  | .s z => .inr (Str.ofString z)

/-! ### the pen, errors, results -/
structure PenSt where
  cells : List Int
  pos : Nat
  digits : Int
  count : Nat
  fold : Int
structure Err where
  c : Nat
  l : List D
inductive Res (α : Type) where
  | ok (a : α) (s : PenSt)
  | err (e : Err) (s : PenSt)
  | bad
@[reducible] def M (α : Type) : Type := PenSt → Res α
namespace M
def ret {α : Type} (a : α) : M α := fun s => .ok a s
def err {α : Type} (e : Err) : M α := fun s => .err e s
def bad {α : Type} : M α := fun _ => .bad
def bind {α β : Type} (m : M α) (f : α → M β) : M β := fun s =>
  match m s with
  | .ok a s' => f a s'
  | .err e s' => .err e s'
  | .bad => .bad
/-- what comes, or an error's fields, hold no list and no lambda -/
def tame (m : M D) : M D := fun s =>
  match m s with
  | .ok d s' => if d.noL && d.still then .ok d s' else .bad
  | .err e s' => if noLs e.l && stills e.l then .err e s' else .bad
  | .bad => .bad
def of {α : Type} : Option α → M α
  | some a => ret a
  | none => bad
/-- no error may leave -/
def calm {α : Type} (m : M α) : M α := fun s =>
  match m s with
  | .ok a s' => .ok a s'
  | .err _ _ => .bad
  | .bad => .bad
@[simp] theorem bind_ret {α β : Type} (a : α) (f : α → M β) : bind (ret a) f = f a := rfl
@[simp] theorem bind_err {α β : Type} (e : Err) (f : α → M β) : bind (err e) f = err e := rfl
@[simp] theorem bind_bad {α β : Type} (f : α → M β) : bind bad f = bad := rfl
@[simp] theorem of_some {α : Type} (a : α) : of (some a) = ret a := rfl
@[simp] theorem of_none {α : Type} : of (none : Option α) = bad := rfl
@[simp] theorem calm_ret {α : Type} (a : α) : calm (ret a) = ret a := rfl
@[simp] theorem calm_bad {α : Type} : calm (bad : M α) = bad := rfl
theorem bind_bind {α β γ : Type} (m : M α) (f : α → M β) (g : β → M γ) : bind (bind m f) g = bind m fun a => bind (f a) g := by
  funext s
  unfold bind
  cases m s <;> rfl
end M

/-! ### the language -/
inductive Op2 where
  | add | sub | mul | fdiv | mod | pow
  deriving DecidableEq
inductive Cmp where
  | eq | ne | lt | le | gt | ge | isin | notin | is | isnot
  deriving DecidableEq
inductive Ty where
  | int | bool | str | tuple | list | dict
  | own (c : Nat)
  deriving DecidableEq
/-- what is called by its name, by values -/
inductive BI where
  | len | all | any | sum | max | min | abs | int | gcd | repr | tuple | list | sorted | bits
  | isi (ts : List Ty)
  deriving DecidableEq
/-- what is walked -/
inductive It where
  | seq | range | zip | enum
  deriving DecidableEq
inductive Tg where
  | name (i : Nat)
  | tup (is : List Nat)
  deriving DecidableEq
inductive E where
  | var (i : Nat)
  | bor (i : Nat)
  | int (i : Int)
  | bl (b : Bool)
  | non
  | str (s : String)
  | nil
  | cons (a r : E)
  | tup (r : E)
  | lst (r : E)
  | bin (o : Op2) (a b : E)
  | neg (a : E)
  | no (a : E)
  | cmp (o : Cmp) (a b : E)
  | chain (o p : Cmp) (a b c : E)
  | and (a b : E)
  | or (a b : E)
  | ite (c a b : E)
  | call (f : Nat) (r : E)
  | bi (f : BI) (r : E)
  | ix (a i : E)
  | sl (a lo hi : E)
  | fld (a : E) (f : String)
  | comp (e : E) (tg : Tg) (k : It) (r c : E)
  | listIt (k : It) (r : E)
  | catch (e : E)
  | lam (k : Nat)
  | catchV (a bs : E)
  | dic0
  | dic1 (k : Kc) (a : E)
  | compG (g : Nat) (tg : Tg) (k : It) (r as bs : E)
  /-- an exception as a value: its class, the keywords' names, where each field's value stands -/
  | mk (c : Nat) (kn : List String) (ks : List Nat) (r : E)
  /-- a call that is lent lists of one's own -/
  | callB (f : Nat) (r : E)
  /-- an instance of an own class is made -/
  | mkI (n : Nat) (r : E)
  /-- ==, != by an own class's __eq__ -/
  | eqO (neg : Bool) (n : Nat) (a b : E)
  deriving DecidableEq
inductive T where
  | name (i : Nat)
  | own (i : Nat)
  | ix (i : Nat) (e : E)
inductive S where
  | skip
  | seq (a b : S)
  | set (i : Nat) (e : E)
  | own (i : Nat) (e : E)
  | par (ts : List T) (r : E)
  | unpack (is : List Nat) (e : E)
  | aug (i : Nat) (o : Op2) (e : E)
  | setIx (i : Nat) (k e : E)
  | append (i : Nat) (e : E)
  | pop (j i : Nat)
  | appendPop (i j : Nat) (e : E)
  | expr (e : E)
  | ite (c : E) (a b : S)
  | for (tg : Tg) (k : It) (r : E) (b : S)
  | while (c : E) (b : S)
  | ret (e : E)
  | raise (c : Nat) (r : E)
  | brk
  | cnt
  | freeze (i : Nat)
  /-- x = f(..): a list that comes is one's own -/
  | ownCall (i f : Nat) (r : E)
  /-- self.f = e -/
  | setF (i : Nat) (f : String) (e : E)
  | forget (i : Nat)

/-! ### operations by values -/
@[irreducible] def BIG : Nat := 2 ^ 400000
@[irreducible] def BIGD : Nat := 2 ^ 9000
def dAdd : D → D → Option D
  | .int a, .int b => some (.int (a + b))
  | .tup a, .tup b => if a.length + b.length ≤ 1000000 then some (.tup (a ++ b)) else none
  | .lst a, .lst b => if a.length + b.length ≤ 1000000 then some (.lst (a ++ b)) else none
  | _, _ => none
def dSub : D → D → Option D
  | .int a, .int b => some (.int (a - b))
  | _, _ => none
def dMul : D → D → Option D
  | .int a, .int b => if a.natAbs < BIG ∧ b.natAbs < BIG then some (.int (a * b)) else none
  | .tup a, .int k => if k ≤ 1000 ∧ -1000 ≤ k ∧ a.length ≤ 1000 then some (.tup (List.replicate k.toNat a).flatten) else none
  | .lst a, .int k => if k ≤ 1000 ∧ -1000 ≤ k ∧ a.length ≤ 1000 then some (.lst (List.replicate k.toNat a).flatten) else none
  | _, _ => none
def dDiv : D → D → Option D
  | .int a, .int b => if b ≠ 0 ∧ b.natAbs < BIGD then some (.int (a.fdiv b)) else none
  | _, _ => none
def dMod : D → D → Option D
  | .int a, .int b => if b ≠ 0 then some (.int (a.fmod b)) else none
  | _, _ => none
def dPow : D → D → Option D
  | .int a, .int b => if 0 ≤ b ∧ b ≤ 1000000 ∧ a.natAbs < 2 ^ 64 then some (.int (a ^ b.toNat)) else none
  | _, _ => none
def d2 : Op2 → D → D → Option D
  | .add => dAdd
  | .sub => dSub
  | .mul => dMul
  | .fdiv => dDiv
  | .mod => dMod
  | .pow => dPow
def dtruth : D → Option Bool
  | .non => some false
  | .bl b => some b
  | .int i => some (i != 0)
  | .str s => if s.length ≤ 1000000 then some ((s.length : Int) != 0) else none
  | .tup l => some (!l.isEmpty)
  | .lst l => some (!l.isEmpty)
  | .dic l => some (!l.isEmpty)
  | _ => none
def lays (d : D) : Bool := d.plain && d.py.canLay0
def deq (a b : D) : Option Bool :=
  if lays a && lays b && SeqAt.shaped a.py && SeqAt.shaped b.py then some (PyData.eqv a.py b.py) else none
def items? : D → Option (List D)
  | .tup l => some l
  | .lst l => some l
  | _ => none
/-- a row holds an equal one -/
def dIn (a b : D) : Option Bool := if lays a && SeqAt.shaped a.py then (items? b).bind fun l => if l.all lays then some (l.any fun z => PyData.eqv z.py a.py) else none else none
def D.isNon : D → Bool
  | .non => true
  | _ => false
def dis : D → D → Option Bool
  | a, .non => some (decide (a.isNon = true))
  | .bl a, .bl b => some (decide (a = b))
  | _, _ => none
def dLt : D → D → Option Bool
  | .int a, .int b => some (decide (a < b))
  | _, _ => none
def dLe : D → D → Option Bool
  | .int a, .int b => some (decide (a ≤ b))
  | _, _ => none
def dcmp : Cmp → D → D → Option Bool
  | .eq => deq
  | .ne => fun a b => (deq a b).map (!·)
  | .lt => dLt
  | .le => dLe
  | .gt => fun a b => dLt b a
  | .ge => fun a b => dLe b a
  | .isin => dIn
  | .notin => fun a b => (dIn a b).map (!·)
  | .is => dis
  | .isnot => fun a b => (dis a b).map (!·)
/-- a place in a row of n, from behind if below 0 -/
def ixAt (n : Nat) (i : Int) : Option Nat := if 0 ≤ i then (if i < n then some i.toNat else none) else if -(n : Int) ≤ i then some (i + n).toNat else none
def dix : D → D → Option D
  | .tup l, .int i => (ixAt l.length i).bind fun j => l[j]?
  | .lst l, .int i => (ixAt l.length i).bind fun j => l[j]?
  | _, _ => none
def cutD (l : List D) (lo hi : Option Int) : List D := (l.drop (HT.sIx l.length 0 lo)).take (HT.sIx l.length l.length hi - HT.sIx l.length 0 lo)
def bools? : List D → Option (List Bool)
  | [] => some []
  | .bl b :: ds => (bools? ds).map (b :: ·)
  | _ :: _ => none
def ints? : List D → Option (List Int)
  | [] => some []
  | .int i :: ds => (ints? ds).map (i :: ·)
  | _ :: _ => none
def dtype : Ty → D → Bool
  | .int, .int _ => true
  | .int, .bl _ => true
  | .bool, .bl _ => true
  | .str, .str _ => true
  | .tuple, .tup _ => true
  | .list, .lst _ => true
  | .dict, .dic _ => true
  | .dict, .pen => true
  | .own c, .obj c' _ => c == c' || (c == 1999 && decide (1000 ≤ c'))
  | _, _ => false
def maxI : List Int → Option Int
  | [] => none
  | a :: l => some (l.foldl (fun m x => if x > m then x else m) a)
def minI : List Int → Option Int
  | [] => none
  | a :: l => some (l.foldl (fun m x => if x < m then x else m) a)
def insI (a : Int) : List Int → List Int
  | [] => [a]
  | b :: l => if a ≤ b then a :: b :: l else b :: insI a l
def sortI : List Int → List Int
  | [] => []
  | a :: l => insI a (sortI l)
def dLen : List D → Option D
  | [.tup l] => some (.int l.length)
  | [.lst l] => some (.int l.length)
  | [.str s] => if s.length ≤ 1000000 then some (.int s.length) else none
  | _ => none
def dAll : List D → Option D
  | [.lst l] => (bools? l).map fun bs => .bl (bs.all id)
  | _ => none
def dAny : List D → Option D
  | [.lst l] => (bools? l).map fun bs => .bl (bs.any id)
  | _ => none
def dSum : List D → Option D
  | [.lst l] => (ints? l).map fun ns => .int ns.sum
  | _ => none
def dMax : List D → Option D
  | [.int a, .int b] => some (.int (if b > a then b else a))
  | [.lst l] => (ints? l).bind fun ns => (maxI ns).map .int
  | [.tup l] => (ints? l).bind fun ns => (maxI ns).map .int
  | _ => none
def dMin : List D → Option D
  | [.int a, .int b] => some (.int (if b < a then b else a))
  | [.lst l] => (ints? l).bind fun ns => (minI ns).map .int
  | [.tup l] => (ints? l).bind fun ns => (minI ns).map .int
  | _ => none
def dAbs : List D → Option D
  | [.int a] => some (.int (if a < 0 then -a else a))
  | _ => none
def dInt : List D → Option D
  | [.int a] => some (.int a)
  | [.bl b] => some (.int (if b then 1 else 0))
  | _ => none
def dGcd : List D → Option D
  | [.int a, .int b] => some (.int ((Nat.gcd a.natAbs b.natAbs : Nat) : Int))
  | _ => none
/-- a list's items one by one: a dict without lists, or no dict within -/
def D.eachD : D → Bool
  | .lst l => l.all fun d => !d.py.hasDict || d.noL
  | _ => false
def dRepr : List D → Option D
  | [d] => if d.plain && (!d.py.hasDict || d.noL || d.eachD) && d.py.showable && decide (d.py.depth ≤ 60) && decide (d.py.shown.length ≤ 10000000) then some (.str d.py.shown) else none
  | _ => none
def dTuple : List D → Option D
  | [.tup l] => some (.tup l)
  | [.lst l] => some (.tup l)
  | _ => none
def dList : List D → Option D
  | [.tup l] => some (.lst l)
  | [.lst l] => some (.lst l)
  | _ => none
def dSorted : List D → Option D
  | [.lst l] => (ints? l).map fun ns => .lst ((sortI ns).map .int)
  | _ => none
def dBits : List D → Option D
  | [.int i] => some (.int (Builtin.Int.intBits i : Nat))
  | _ => none
def D.isObj (n : Nat) : D → Bool
  | .obj m _ => m == n
  | _ => false
/-- what may stand behind == (neg: !=) of an instance -/
def D.okEq (neg : Bool) (n : Nat) : D → Bool
  | .lam _ => false
  | .obj m _ => !neg || m == n
  | _ => !neg
def dNeg (neg : Bool) : D → Option Bool
  | .bl t => some (if neg then !t else t)
  | _ => none
def pickD (l : List D) : List Nat → Option (List D)
  | [] => some []
  | k :: ks => (l[k]?).bind fun d => (pickD l ks).map (d :: ·)
def dMk (c : Nat) (kn : List String) (ks : List Nat) (l : List D) : Option D := if kn.isEmpty then some (.obj (1000 + c) l) else (pickD l ks).map (.obj (1000 + c))
def dIsi (ts : List Ty) : List D → Option D
  | [.lam _] => none
  | [d] => some (.bl (ts.any fun t => dtype t d))
  | _ => none
def dbi : BI → List D → Option D
  | .len => dLen
  | .all => dAll
  | .any => dAny
  | .sum => dSum
  | .max => dMax
  | .min => dMin
  | .abs => dAbs
  | .int => dInt
  | .gcd => dGcd
  | .repr => dRepr
  | .tuple => dTuple
  | .list => dList
  | .sorted => dSorted
  | .bits => dBits
  | .isi ts => dIsi ts
def upTo (lo : Int) : Nat → List D
  | 0 => []
  | n + 1 => .int lo :: upTo (lo + 1) n
def dSeq : List D → Option (List D)
  | [d] => items? d
  | _ => none
def dRange : List D → Option (List D)
  | [.int n] => if -1000000 ≤ n ∧ n ≤ 1000000 then some (upTo 0 n.toNat) else none
  | [.int a, .int b] => if (-1000000 ≤ a ∧ a ≤ 1000000) ∧ -1000000 ≤ b ∧ b ≤ 1000000 then some (upTo a (b - a).toNat) else none
  | _ => none
def dZip : List D → Option (List D)
  | [.lst l, .lst m] => some ((l.zip m).map fun p => .tup [p.1, p.2])
  | [.tup l, .tup m] => some ((l.zip m).map fun p => .tup [p.1, p.2])
  | _ => none
def dItems : It → List D → Option (List D)
  | .seq => dSeq
  | .range => dRange
  | .zip => dZip
  | .enum => fun _ => none

/-! ### slots -/
inductive SD where
  | no
  | val (d : D)
  | own (l : List D)
  /-- an instance that is being made: its class, its fields so far -/
  | ins (n : Nat) (fs : List (String × D))
def SD.notIns : SD → Bool
  | .ins _ _ => false
  | _ => true
abbrev Env := List SD
def wipeD (ρ : Env) : List Nat → Env
  | [] => ρ
  | i :: is => (wipeD ρ is).set i .no
def setAll (ρ : Env) : List Nat → List D → Option Env
  | [], [] => some ρ
  | i :: is, d :: ds => setAll (ρ.set i (.val d)) is ds
  | _, _ => none
def bindTg : Tg → D → Env → Option Env
  | .name i, d, ρ => some (ρ.set i (.val d))
  | .tup is, .tup ds, ρ => setAll ρ is ds
  | _, _, _ => none
def Tg.slots : Tg → List Nat
  | .name i => [i]
  | .tup is => is

/-! ### what is computed -/
abbrev Fns := Nat → List D → M D
/-- a test that keeps an item or leaves it out, what is made of it -/
def mapF (f : D → M (Option D)) : List D → M (List D)
  | [] => .ret []
  | d :: ds => .bind (f d) fun o => .bind (mapF f ds) fun l => .ret (match o with | some x => x :: l | none => l)
/-- what a caught error is told as: its tag stands behind the field names -/
def M.fault (F : Nat → List String) (m : M D) : M D := fun s =>
  match m s with
  | .ok _ s' => .ok .non s'
  | .err e s' => match F (2000 + e.c) with
    | [tag] => .ok (.tup (.str (Str.ofString tag) :: e.l)) s'
    | _ => .bad
  | .bad => .bad
/-- the names of an object's fields, by its class -/
abbrev Flds := Nat → List String
def fieldAt (F : Flds) (f : String) : D → Option D
  | .obj c l => (F c).idxOf? f |>.bind fun j => l[j]?
  | _ => none
/-- a list of one's own is lent -/
def isBor : E → Bool
  | .bor _ => true
  | _ => false
def hards : E → Bool
  | .cons a r => !isBor a && hards r
  | _ => true
section
variable (Φ : Fns) (F : Flds)
mutual
def ev : E → Env → M D
  | .var i, ρ => match ρ[i]? with | some (.val d) => .ret d | _ => .bad
  | .bor i, ρ => match ρ[i]? with | some (.own l) => .ret (.lst l) | some (.val d) => .ret d | _ => .bad
  | .int i, _ => .ret (.int i)
  | .bl b, _ => .ret (.bl b)
  | .non, _ => .ret .non
  | .str s, _ => .ret (.str (Str.ofString s))
  | .nil, _ => .bad
  | .cons _ _, _ => .bad
  | .tup r, ρ => .bind (evs r ρ) fun l => .ret (.tup l)
  | .lst r, ρ => .bind (evs r ρ) fun l => .ret (.lst l)
  | .bin o a b, ρ => .bind (ev a ρ) fun x => .bind (ev b ρ) fun y => .of (d2 o x y)
  | .neg a, ρ => .bind (ev a ρ) fun x => match x with | .int i => .ret (.int (-i)) | _ => .bad
  | .no a, ρ => .bind (ev a ρ) fun x => .bind (.of (dtruth x)) fun t => .ret (.bl (!t))
  | .cmp o a b, ρ => .bind (ev a ρ) fun x => .bind (ev b ρ) fun y => .bind (.of (dcmp o x y)) fun t => .ret (.bl t)
  | .chain o p a b c, ρ => .bind (ev a ρ) fun x => .bind (ev b ρ) fun y => .bind (.of (dcmp o x y)) fun t =>
      if t then .bind (ev c ρ) fun z => .bind (.of (dcmp p y z)) fun u => .ret (.bl u) else .ret (.bl false)
  | .and a b, ρ => .bind (ev a ρ) fun x => .bind (.of (dtruth x)) fun t => if t then ev b ρ else .ret x
  | .or a b, ρ => .bind (ev a ρ) fun x => .bind (.of (dtruth x)) fun t => if t then .ret x else ev b ρ
  | .ite c a b, ρ => .bind (ev c ρ) fun x => .bind (.of (dtruth x)) fun t => if t then ev a ρ else ev b ρ
  | .call f r, ρ => .bind (evs r ρ) fun l => Φ f l
  | .bi f r, ρ => .bind (evs r ρ) fun l => .of (dbi f l)
  | .ix a i, ρ => .bind (ev a ρ) fun x => .bind (ev i ρ) fun y => .of (dix x y)
  | .sl a lo hi, ρ => .bind (ev a ρ) fun x => .bind (evo lo ρ) fun l => .bind (evo hi ρ) fun h => match x with
      | .tup xs => .ret (.tup (cutD xs l h))
      | .lst xs => .ret (.lst (cutD xs l h))
      | _ => .bad
  | .fld a f, ρ => .bind (ev a ρ) fun x => .of (fieldAt F f x)
  | .comp e tg k r c, ρ => .bind (evs r ρ) fun l => .bind (.of (dItems k l)) fun items =>
      .calm (.bind (mapF (fun d => match bindTg tg d (wipeD ρ tg.slots) with
        | none => .bad
        | some ρ' => .bind (evc c ρ') fun t => if t then .bind (ev e ρ') fun x => .ret (some x) else .ret none) items) fun l => .ret (.lst l))
  | .listIt k r, ρ => .bind (evs r ρ) fun l => .bind (.of (dItems k l)) fun items => .ret (.lst items)
  | .catch e, ρ => .fault F (ev e ρ)
  | .lam k, _ => .ret (.lam k)
  | .catchV a bs, ρ => .bind (ev a ρ) fun d => match d with
      | .lam k => .fault F (evn bs k ρ)
      | _ => .bad
  | .dic0, _ => .ret (.dic [])
  | .mk c kn ks r, ρ => .bind (evs r ρ) fun l => .of (dMk c kn ks l)
  | .callB f r, ρ => .bind (evs r ρ) fun l => .tame (Φ f l)
  | .mkI n r, ρ => .bind (evs r ρ) fun l => if hards r then Φ (5000 + n) l else .tame (Φ (5000 + n) l)
  | .eqO neg n a b, ρ => .bind (ev a ρ) fun x => .bind (ev b ρ) fun y => if x.isObj n && y.okEq neg n then .bind (.bind (Φ (6000 + n) [x, y]) (.of ∘ dNeg neg)) fun t => .ret (.bl t) else .bad
  | .dic1 k a, ρ => .bind (ev a ρ) fun d => .ret (.dic [(k.key, d)])
  | .compG g tg k r as bs, ρ => .bind (evs r ρ) fun l => .bind (.of (dItems k l)) fun items =>
      .calm (.bind (mapF (fun d => match bindTg tg d (wipeD ρ tg.slots) with
        | none => .bad
        | some ρ' => .bind (.bind (evs as ρ') fun ds => match ds with
          | .lam j :: es => .bind (.fault F (evn bs j ρ)) fun v => Φ g (v :: es)
          | _ => .bad) fun x => .ret (some x)) items) fun l => .ret (.lst l))
def evs : E → Env → M (List D)
  | .nil, _ => .ret []
  | .cons a r, ρ => .bind (ev a ρ) fun x => .bind (evs r ρ) fun xs => .ret (x :: xs)
  | _, _ => .bad
/-- one of a row of lambdas' bodies -/
def evn : E → Nat → Env → M D
  | .cons a r, k, ρ => match k with
    | 0 => ev a ρ
    | k + 1 => evn r k ρ
  | _, _, _ => .bad
/-- an optional part of a slice -/
def evo : E → Env → M (Option Int)
  | .nil, _ => .ret none
  | .cons a _, ρ => .bind (ev a ρ) fun x => match x with | .int i => .ret (some i) | _ => .bad
  | _, _ => .bad
/-- a comprehension's test, or none -/
def evc : E → Env → M Bool
  | .nil, _ => .ret true
  | .cons a _, ρ => .bind (ev a ρ) fun x => .of (dtruth x)
  | _, _ => .bad
end
end

inductive Flow where
  | nx (ρ : Env)
  | rt (d : D)
  | bk (ρ : Env)
  | ct (ρ : Env)
def forL (f : D → Env → M Flow) : List D → Env → M Flow
  | [], ρ => .ret (.nx ρ)
  | d :: ds, ρ => .bind (f d ρ) fun r => match r with
    | .nx ρ' => forL f ds ρ'
    | .ct ρ' => forL f ds ρ'
    | .bk ρ' => .ret (.nx ρ')
    | .rt x => .ret (.rt x)
def whileL (t : Env → M Bool) (f : Env → M Flow) : Nat → Env → M Flow
  | 0, _ => .bad
  | n + 1, ρ => .bind (t ρ) fun b => if b then .bind (f ρ) fun r => match r with
    | .nx ρ' => whileL t f n ρ'
    | .ct ρ' => whileL t f n ρ'
    | .bk ρ' => .ret (.nx ρ')
    | .rt x => .ret (.rt x)
    else .ret (.nx ρ)
/-- more turns than any loop takes -/
@[irreducible] def FUEL : Nat := 10 ^ 15
def ownAt (ρ : Env) (i : Nat) : M (List D) := match ρ[i]? with
  | some (.own l) => .ret l
  | _ => .bad
/-- one target after another -/
def parL (Φ : Fns) (F : Flds) : List T → List D → Env → M Env
  | [], [], ρ => .ret ρ
  | .name i :: ts, d :: ds, ρ => parL Φ F ts ds (ρ.set i (.val d))
  | .own i :: ts, .lst l :: ds, ρ => parL Φ F ts ds (ρ.set i (.own l))
  | .ix i e :: ts, d :: ds, ρ => .bind (ownAt ρ i) fun l => .bind (ev Φ F e ρ) fun k => match k with
    | .int z => .bind (.of (ixAt l.length z)) fun j => parL Φ F ts ds (ρ.set i (.own (l.set j d)))
    | _ => .bad
  | _, _, _ => .bad
section
variable (Φ : Fns) (F : Flds)
def exS : S → Env → M Flow
  | .skip, ρ => .ret (.nx ρ)
  | .seq a b, ρ => .bind (exS a ρ) fun r => match r with
    | .nx ρ' => exS b ρ'
    | .rt d => .ret (.rt d)
    | .bk ρ' => .ret (.bk ρ')
    | .ct ρ' => .ret (.ct ρ')
  | .set i e, ρ => .bind (ev Φ F e ρ) fun d => .ret (.nx (ρ.set i (.val d)))
  | .own i e, ρ => .bind (ev Φ F e ρ) fun d => match d with
    | .lst l => .ret (.nx (ρ.set i (.own l)))
    | _ => .bad
  | .par ts r, ρ => .bind (evs Φ F r ρ) fun ds => .bind (parL Φ F ts ds ρ) fun ρ' => .ret (.nx ρ')
  | .unpack is e, ρ => .bind (ev Φ F e ρ) fun d => match d with
    | .tup ds => .bind (.of (setAll ρ is ds)) fun ρ' => .ret (.nx ρ')
    | .lst ds => .bind (.of (setAll ρ is ds)) fun ρ' => .ret (.nx ρ')
    | _ => .bad
  | .aug i o e, ρ => match ρ[i]? with
    | some (.val x) => .bind (ev Φ F e ρ) fun y => .bind (.of (d2 o x y)) fun z => .ret (.nx (ρ.set i (.val z)))
    | _ => .bad
  | .setIx i k e, ρ => .bind (ev Φ F e ρ) fun d => .bind (ownAt ρ i) fun l => .bind (ev Φ F k ρ) fun z => match z with
    | .int z => .bind (.of (ixAt l.length z)) fun j => .ret (.nx (ρ.set i (.own (l.set j d))))
    | _ => .bad
  | .append i e, ρ => .bind (ownAt ρ i) fun l => .bind (ev Φ F e ρ) fun d => if l.length < 1000000 then .ret (.nx (ρ.set i (.own (l ++ [d])))) else .bad
  | .pop j i, ρ => .bind (ownAt ρ i) fun l => .bind (.of l.getLast?) fun d => .ret (.nx ((ρ.set i (.own l.dropLast)).set j (.val d)))
  | .appendPop i j e, ρ => if i = j then .bad else .bind (ownAt ρ i) fun l => .bind (ownAt ρ j) fun m => .bind (ev Φ F e ρ) fun z => match z with
    | .int z => .bind (.of (ixAt m.length z)) fun k => .bind (.of m[k]?) fun d =>
        if l.length < 1000000 then .ret (.nx ((ρ.set j (.own (m.eraseIdx k))).set i (.own (l ++ [d])))) else .bad
    | _ => .bad
  | .expr e, ρ => .bind (ev Φ F e ρ) fun _ => .ret (.nx ρ)
  | .ite c a b, ρ => .bind (ev Φ F c ρ) fun x => .bind (.of (dtruth x)) fun t => if t then exS a ρ else exS b ρ
  | .for tg k r b, ρ => .bind (evs Φ F r ρ) fun l => .bind (.of (dItems k l)) fun items =>
      forL (fun d ρ => match bindTg tg d ρ with
        | none => .bad
        | some ρ' => exS b ρ') items ρ
  | .while c b, ρ => whileL (fun ρ => .bind (ev Φ F c ρ) fun x => .of (dtruth x)) (fun ρ => exS b ρ) FUEL ρ
  | .ret e, ρ => .bind (ev Φ F e ρ) fun d => .ret (.rt d)
  | .raise c r, ρ => .bind (evs Φ F r ρ) fun l => .err ⟨c, l⟩
  | .brk, ρ => .ret (.bk ρ)
  | .cnt, ρ => .ret (.ct ρ)
  | .freeze i, ρ => .bind (ownAt ρ i) fun l => .ret (.nx (ρ.set i (.val (.lst l))))
  | .forget i, ρ => .ret (.nx (ρ.set i .no))
  | .ownCall i f r, ρ => .bind (evs Φ F r ρ) fun l => .bind (Φ f l) fun d => .ret (.nx (ρ.set i (match d with | .lst l => .own l | d => .val d)))
  | .setF i f e, ρ => .bind (ev Φ F e ρ) fun d => match ρ[i]? with
    | some (.ins n fs) => if fs.length < 500 ∧ (fs.map fun p => PySem.Str.ofString p.1).contains (PySem.Str.ofString f) = false ∧ i = 0 ∧ ρ.tail.all SD.notIns = true ∧ (F n).contains f = true then .ret (.nx (ρ.set i (.ins n (fs ++ [(f, d)])))) else .bad
    | _ => .bad
/-- a def: its body, its parameters' values in a row of so many slots -/
def runF (b : S) (n : Nat) (args : List D) : M D := .bind (exS Φ F b (args.map SD.val ++ List.replicate (n - args.length) .no)) fun r => match r with
  | .nx _ => .ret .non
  | .rt d => .ret d
  | _ => .bad
end
end VC
set_option Elab.async false
set_option linter.all false
set_option maxRecDepth 100000
/-! VCb: how values stand in a heap; what may grow; what is wanted of an evaluation. -/
namespace VC
open PySem PySem.Spec PyProof.Rows L2

/-- a function object at l -/
def FnO (l : Addr) (ob : Obj) : HO := .ext fun h => h.get? l = some ob
structure Cfg where
  K : PySem.W.Frag
  pa : Addr
  la : Addr
  cl : Nat → Addr
  F : Flds
  used : Nat → Bool
  tabs : List (Addr × Str)
  /-- lambdas may be met; what is known of the function object at an address; of its code object -/
  hot : Bool
  lo : Nat → Addr → Obj → Prop
  lc : Addr → HO
  /-- instances are exceptions -/
  xs : Bool := false

/-- an instance's fields, by their names -/
def FldsAre (ns : List String) (fs : List (Str × V)) (vs : List V) : Prop :=
  ns.length = vs.length ∧ ∀ (j : Nat) (n : String) (v : V), ns[j]? = some n → vs[j]? = some v → fs.lookup (Str.ofString n) = some v

mutual
inductive Rep (c : Cfg) (H : Hp) : V → D → Prop
  | non : Rep c H .non .non
  | bl (b : Bool) : Rep c H (.bl b) (.bl b)
  | int (i : Int) : Rep c H (.int i) (.int i)
  | str (s : Str) : Rep c H (.str s) (.str s)
  | tup {a : Addr} {vs : List V} {ds : List D} : SqT c.K H a vs → vs.length ≤ sizeLine → Reps c H vs ds → Rep c H (.ref a) (.tup ds)
  | lst {a : Addr} {vs : List V} {ds : List D} : H a = some (.lst vs) → vs.length ≤ sizeLine → Reps c H vs ds → Rep c H (.ref a) (.lst ds)
  | dic {a : Addr} {kvs : List (Key × V)} {kds : List (Key × D)} : H a = some (.dK kvs) → RepKs c H kvs kds → Rep c H (.ref a) (.dic kds)
  | obj {a dx : Addr} {fs : List (Str × V)} {n : Nat} {vs : List V} {ds : List D} : c.xs = false → H a = some (.ins (c.cl n) dx fs) → c.used n = true → FldsAre (c.F n) fs vs → Reps c H vs ds → Rep c H (.ref a) (.obj n ds)
  | exc {a dx : Addr} {fs : List (Str × V)} {n : Nat} {vs : List V} {ds : List D} : c.xs = true → H a = some (exo a (c.cl n) (some dx)) → H dx = some (exd dx fs) → c.used n = true → FldsAre (c.F n) fs vs → Reps c H vs ds → Rep c H (.ref a) (.obj n ds)
  | exc0 {a : Addr} {n : Nat} : c.xs = true → H a = some (exo a (c.cl n) none) → c.used n = true → c.F n = [] → Rep c H (.ref a) (.obj n [])
  | pen : Rep c H (.ref c.pa) .pen
  | lam {l c' : Addr} {k : Nat} {ob : Obj} : c.hot = true → H l = some (FnO l ob) → c.lo k c' ob → H c' = some (c.lc c') → Rep c H (.ref l) (.lam k)
inductive Reps (c : Cfg) (H : Hp) : List V → List D → Prop
  | nil : Reps c H [] []
  | cons {v : V} {d : D} {vs : List V} {ds : List D} : Rep c H v d → Reps c H vs ds → Reps c H (v :: vs) (d :: ds)
inductive RepKs (c : Cfg) (H : Hp) : List (Key × V) → List (Key × D) → Prop
  | nil : RepKs c H [] []
  | cons {k : Key} {v : V} {d : D} {vs : List (Key × V)} {ds : List (Key × D)} : Rep c H v d → RepKs c H vs ds → RepKs c H ((k, v) :: vs) ((k, d) :: ds)
end

theorem same_sqT {K : PySem.W.Frag} {H H' : Hp} {a : Addr} {xs : List V} (e : Same H H') (h : SqT K H a xs) : SqT K H' a xs := by
  rcases h with (h | ⟨o, h⟩) | h
  · exact .inl (.inl (e _ _ h))
  · exact .inl (.inr ⟨o, e _ _ h⟩)
  · exact .inr h
theorem same_rd {H H' : Hp} {a : Addr} {u : HO} (e : Same H H') (h : Rd H a u) : Rd H' a u := by
  rcases h with h | ⟨o, h⟩
  · exact .inl (e _ _ h)
  · exact .inr ⟨o, e _ _ h⟩
section
variable {c : Cfg} {H H' : Hp}
mutual
theorem Rep.mono (e : Same H H') : ∀ {v : V} {d : D}, Rep c H v d → Rep c H' v d
  | _, _, .non => .non
  | _, _, .bl b => .bl b
  | _, _, .int i => .int i
  | _, _, .str s => .str s
  | _, _, .tup h z r => .tup (same_sqT e h) z (Reps.mono e r)
  | _, _, .lst h z r => .lst (e _ _ h) z (Reps.mono e r)
  | _, _, .dic h r => .dic (e _ _ h) (RepKs.mono e r)
  | _, _, .obj x h u f r => .obj x (e _ _ h) u f (Reps.mono e r)
  | _, _, .exc x h hd u f r => .exc x (e _ _ h) (e _ _ hd) u f (Reps.mono e r)
  | _, _, .exc0 x h u f => .exc0 x (e _ _ h) u f
  | _, _, .pen => .pen
  | _, _, .lam hh h i k => .lam hh (e _ _ h) i (e _ _ k)
theorem Reps.mono (e : Same H H') : ∀ {vs : List V} {ds : List D}, Reps c H vs ds → Reps c H' vs ds
  | _, _, .nil => .nil
  | _, _, .cons h r => .cons (Rep.mono e h) (Reps.mono e r)
theorem RepKs.mono (e : Same H H') : ∀ {vs : List (Key × V)} {ds : List (Key × D)}, RepKs c H vs ds → RepKs c H' vs ds
  | _, _, .nil => .nil
  | _, _, .cons h r => .cons (Rep.mono e h) (RepKs.mono e r)
end
theorem Reps.length : ∀ {vs : List V} {ds : List D}, Reps c H vs ds → vs.length = ds.length
  | _, _, .nil => rfl
  | _, _, .cons _ r => by rw [List.length_cons, List.length_cons, Reps.length r]
theorem Reps.get : ∀ {vs : List V} {ds : List D} {i : Nat} {d : D}, Reps c H vs ds → ds[i]? = some d → ∃ v, vs[i]? = some v ∧ Rep c H v d
  | _, _, _, _, .nil, e => by simp at e
  | _, _, 0, _, .cons h _, e => by
    simp at e
    subst e
    exact ⟨_, rfl, h⟩
  | _, _, i + 1, _, .cons _ r, e => by
    obtain ⟨v, h1, h2⟩ := Reps.get (i := i) r (by simpa using e)
    exact ⟨v, by simpa using h1, h2⟩
theorem Reps.getV : ∀ {vs : List V} {ds : List D} {i : Nat} {v : V}, Reps c H vs ds → vs[i]? = some v → ∃ d, ds[i]? = some d ∧ Rep c H v d
  | _, _, _, _, .nil, e => by simp at e
  | _, _, 0, _, .cons h _, e => by
    simp at e
    subst e
    exact ⟨_, rfl, h⟩
  | _, _, i + 1, _, .cons _ r, e => by
    obtain ⟨v, h1, h2⟩ := Reps.getV (i := i) r (by simpa using e)
    exact ⟨v, by simpa using h1, h2⟩
theorem Reps.append : ∀ {vs ws : List V} {ds es : List D}, Reps c H vs ds → Reps c H ws es → Reps c H (vs ++ ws) (ds ++ es)
  | _, _, _, _, .nil, s => s
  | _, _, _, _, .cons h r, s => .cons h (Reps.append r s)
theorem Reps.take : ∀ {vs : List V} {ds : List D} (n : Nat), Reps c H vs ds → Reps c H (vs.take n) (ds.take n)
  | _, _, 0, _ => .nil
  | _, _, _ + 1, .nil => .nil
  | _, _, n + 1, .cons h r => .cons h (Reps.take n r)
theorem Reps.drop : ∀ {vs : List V} {ds : List D} (n : Nat), Reps c H vs ds → Reps c H (vs.drop n) (ds.drop n)
  | _, _, 0, r => r
  | _, _, _ + 1, .nil => .nil
  | _, _, n + 1, .cons _ r => Reps.drop n r
theorem Reps.set {v : V} {d : D} (h : Rep c H v d) : ∀ {vs : List V} {ds : List D} (i : Nat), Reps c H vs ds → Reps c H (vs.set i v) (ds.set i d)
  | _, _, _, .nil => .nil
  | _, _, 0, .cons _ r => .cons h r
  | _, _, i + 1, .cons q r => .cons q (Reps.set h i r)
theorem Reps.erase : ∀ {vs : List V} {ds : List D} (i : Nat), Reps c H vs ds → Reps c H (vs.eraseIdx i) (ds.eraseIdx i)
  | _, _, _, .nil => .nil
  | _, _, 0, .cons _ r => r
  | _, _, i + 1, .cons q r => .cons q (Reps.erase i r)
theorem Reps.dropLast {vs : List V} {ds : List D} (h : Reps c H vs ds) : Reps c H vs.dropLast ds.dropLast := by
  rw [List.dropLast_eq_take, List.dropLast_eq_take, h.length]
  exact h.take _
theorem Reps.flat {vs : List V} {ds : List D} (h : Reps c H vs ds) : ∀ n : Nat, Reps c H (List.replicate n vs).flatten (List.replicate n ds).flatten
  | 0 => .nil
  | n + 1 => by
    rw [List.replicate_succ, List.flatten_cons, List.replicate_succ, List.flatten_cons]
    exact h.append (Reps.flat h n)
end

/-! ### the pen -/
def penKV (la : Addr) (st : PenSt) : List (Key × V) :=
  [(.inr "cells", .ref la), (.inr "at", .int st.pos), (.inr "digits", .int st.digits), (.inr "count", .int st.count), (.inr "fold", .int st.fold)]
/-- the table at P: each code object that it tells stands fast and bears the name q -/
def TabF (H0 H : Hp) (P : Addr) (q : Str) : Prop := ∃ ps : Array Value, H P = some (.tbl ps) ∧ TriplesOk ps.toList ∧ ∀ (pos : Pos) (cv : Value), codeAmong pos ps.toList = some cv → ∃ c, cv = .ref c ∧ H0 c = some (LamX.CodeO c q)
def TabsF (T : List (Addr × Str)) (H0 H : Hp) : Prop := ∀ p ∈ T, TabF H0 H p.1 p.2
theorem TabsF.loose {T : List (Addr × Str)} {H0 H : Hp} (t : TabsF T H0 H) (sm : Same H0 H) : LamX.Tabs T H := fun p hp => by
  obtain ⟨ps, h1, h2, h3⟩ := t p hp
  refine ⟨ps, h1, h2, fun pos cv e => ?_⟩
  obtain ⟨c, e1, e2⟩ := h3 pos cv e
  exact ⟨c, e1, sm _ _ e2⟩
theorem TabsF.ext {T : List (Addr × Str)} {H0 H H0' H' : Hp} (t : TabsF T H0 H) (e0 : ∀ b o, H0 b = some o → H0' b = some o) (e : ∀ b ps, H b = some (.tbl ps) → H' b = some (.tbl ps)) : TabsF T H0' H' := fun p hp => by
  obtain ⟨ps, h1, h2, h3⟩ := t p hp
  refine ⟨ps, e _ _ h1, h2, fun pos cv z => ?_⟩
  obtain ⟨c, e1, e2⟩ := h3 pos cv z
  exact ⟨c, e1, e0 _ _ e2⟩
structure PenAt (c : Cfg) (H0 H : Hp) (st : PenSt) : Prop where
  pen : H0 c.pa = none ∧ H c.pa = some (.dK (penKV c.la st)) ∧ H0 c.la = some (.lst (st.cells.map V.int))
  tabs : TabsF c.tabs H0 H
  nt : ∀ a ps, H0 a ≠ some (.tbl ps)
theorem PenAt.npa {c : Cfg} {H0 H : Hp} {st : PenSt} {p : Addr} (h : PenAt c H0 H st) (e : H p = none) : p ≠ c.pa := fun z => by
  subst z
  obtain ⟨_, h1, _⟩ := h.pen
  rw [e] at h1
  cases h1
theorem PenAt.npl {c : Cfg} {H0 H : Hp} {st : PenSt} {p : Addr} {vs : List V} (h : PenAt c H0 H st) (e : H p = some (.lst vs)) : p ≠ c.pa := fun z => by
  subst z
  obtain ⟨_, h1, _⟩ := h.pen
  rw [e] at h1
  cases h1

theorem lst_nt {vs : List V} : ∀ ps, HO.lst vs ≠ .tbl ps := by
  intro _ h
  cases h
/-- nothing there but, may be, a table -/
def NoObj (H : Hp) (p : Addr) : Prop := ∀ o, H p = some o → ∃ ps, o = .tbl ps
theorem NoObj.of {H : Hp} {p : Addr} (h : H p = none) : NoObj H p := fun o e => by
  rw [h] at e
  cases e
theorem ne_of_obj {H : Hp} {a p : Addr} {o : HO} (h : H a = some o) (nt : ∀ ps, o ≠ .tbl ps) (n : NoObj H p) : a ≠ p := fun z => by
  subst z
  obtain ⟨ps, q⟩ := n _ h
  exact nt ps q
theorem NoObj.lst {H : Hp} {p : Addr} {vs : List V} (n : NoObj H p) (h : H p = some (.lst vs)) : False := by
  obtain ⟨ps, z⟩ := n _ h
  cases z
/-! ### what grows: H0 what stands fast, H all -/
structure Grow (c : Cfg) (H0 H H0' H' : Hp) : Prop where
  fast : Same H0 H0'
  sub : Same H0' H'
  old : ∀ a o, a ≠ c.pa → (∀ ps, o ≠ .tbl ps) → H a = some o → H0 a = none → H' a = some o ∧ H0' a = none
  dom : ∀ a o, (∀ ps, o ≠ .tbl ps) → H a = some o → ∃ u, (∀ ps, u ≠ .tbl ps) ∧ H' a = some u
theorem Grow.refl {c : Cfg} {H0 H : Hp} (s : Same H0 H) : Grow c H0 H H0 H := ⟨Same.refl _, s, fun _ _ _ _ h n => ⟨h, n⟩, fun _ o n h => ⟨o, n, h⟩⟩
theorem Grow.trans {c : Cfg} {H0 H H1 G1 H2 G2 : Hp} (a : Grow c H0 H H1 G1) (b : Grow c H1 G1 H2 G2) : Grow c H0 H H2 G2 :=
  ⟨a.fast.trans b.fast, b.sub, fun p o np nt h n => b.old p o np nt (a.old p o np nt h n).1 (a.old p o np nt h n).2, fun p o n h => by
    obtain ⟨u, nu, hu⟩ := a.dom p o n h
    exact b.dom p u nu hu⟩
/-- a new object that stands fast -/
theorem Grow.new {c : Cfg} {H0 H : Hp} {p : Addr} {o : HO} (s : Same H0 H) (np : H p = none) : Grow c H0 H (upd H0 p o) (upd H p o) := by
  have n0 : H0 p = none := s.free np
  refine ⟨fun a u h => ?_, fun a u h => ?_, fun a u _ _ h n => ?_, fun a u nt h => ⟨u, nt, ?_⟩⟩
  · rw [upd_ne (ne_of_none h n0)]
    exact h
  · by_cases e : a = p
    · subst e
      rw [upd_same] at h ⊢
      exact h
    · rw [upd_ne e] at h ⊢
      exact s _ _ h
  · have e : a ≠ p := ne_of_none h np
    rw [upd_ne e, upd_ne e]
    exact ⟨h, n⟩
  · rw [upd_ne (ne_of_none h np)]
    exact h
/-- a new object that does not stand fast -/
theorem Grow.loose {c : Cfg} {H0 H : Hp} {p : Addr} {o : HO} (s : Same H0 H) (np : H p = none) : Grow c H0 H H0 (upd H p o) := by
  have n0 : H0 p = none := s.free np
  refine ⟨Same.refl _, fun a u h => ?_, fun a u _ _ h n => ?_, fun a u nt h => ⟨u, nt, ?_⟩⟩
  · rw [upd_ne (ne_of_none h n0)]
    exact s _ _ h
  · rw [upd_ne (ne_of_none h np)]
    exact ⟨h, n⟩
  · rw [upd_ne (ne_of_none h np)]
    exact h
theorem PenAt.new {c : Cfg} {H0 H : Hp} {st : PenSt} {p : Addr} {o : HO} (s : Same H0 H) (np : H p = none) (h : PenAt c H0 H st) (ho : ∀ ps, o ≠ .tbl ps := by intro _ h; cases h) : PenAt c (upd H0 p o) (upd H p o) st := by
  obtain ⟨⟨h0, h1, h2⟩, ht, hn⟩ := h
  refine ⟨⟨?_, ?_, ?_⟩, ht.ext (fun b u e => ?_) (fun b ps e => ?_), fun a ps e => ?_⟩
  · rw [upd_ne (ne_of_none h1 np)]
    exact h0
  · rw [upd_ne (ne_of_none h1 np)]
    exact h1
  · rw [upd_ne (ne_of_none (s _ _ h2) np)]
    exact h2
  · rw [upd_ne (ne_of_none e (s.free np))]
    exact e
  · rw [upd_ne (ne_of_none e np)]
    exact e
  · by_cases ea : a = p
    · subst ea
      rw [upd_same] at e
      exact ho ps (Option.some.inj e)
    · rw [upd_ne ea] at e
      exact hn a ps e
theorem PenAt.loose {c : Cfg} {H0 H : Hp} {st : PenSt} {p : Addr} {o : HO} (np : H p = none) (h : PenAt c H0 H st) : PenAt c H0 (upd H p o) st := by
  obtain ⟨⟨h0, h1, h2⟩, ht, hn⟩ := h
  exact ⟨⟨h0, by rw [upd_ne (ne_of_none h1 np)]; exact h1, h2⟩, ht.ext (fun _ _ e => e) (fun b u e => by rw [upd_ne (ne_of_none e np)]; exact e), hn⟩
/-- a list that does not stand fast is changed -/
theorem PenAt.change {c : Cfg} {H0 H : Hp} {st : PenSt} {p : Addr} {vs ws : List V} (e : H p = some (.lst vs)) (n : H0 p = none) (h : PenAt c H0 H st) : PenAt c H0 (upd H p (.lst ws)) st := by
  have np := h.npl e
  obtain ⟨⟨h0, h1, h2⟩, ht, hn⟩ := h
  refine ⟨⟨h0, by rw [upd_ne (Ne.symm np)]; exact h1, h2⟩, fun q hq => ?_, hn⟩
  obtain ⟨ps, t1, t2, t3⟩ := ht q hq
  have keep : ∀ {b : Addr} {o : HO}, H b = some o → o ≠ .lst vs → upd H p (.lst ws) b = some o := fun {b o} hb ho => by
    rw [upd_ne fun z => ho (by subst z; rw [e] at hb; exact (Option.some.inj hb).symm)]
    exact hb
  refine ⟨ps, keep t1 (fun z => by cases z), t2, fun pos cv hc => ?_⟩
  obtain ⟨c', e1, e2⟩ := t3 pos cv hc
  exact ⟨c', e1, e2⟩
theorem PenAt.fix {c : Cfg} {H0 H : Hp} {st : PenSt} {p : Addr} {vs : List V} (e : H p = some (.lst vs)) (n : H0 p = none) (h : PenAt c H0 H st) : PenAt c (upd H0 p (.lst vs)) H st := by
  have np := h.npl e
  obtain ⟨⟨h0, h1, h2⟩, ht, hn⟩ := h
  refine ⟨⟨by rw [upd_ne (Ne.symm np)]; exact h0, h1, by rw [upd_ne (ne_of_none h2 n)]; exact h2⟩, ht.ext (fun b u e => by rw [upd_ne (ne_of_none e n)]; exact e) (fun _ _ e => e), fun a ps e => ?_⟩
  by_cases ea : a = p
  · subst ea
    rw [upd_same] at e
    cases e
  · rw [upd_ne ea] at e
    exact hn a ps e

/-- a list of one's own at a slot: it may be changed -/
def OwnR (c : Cfg) (H0 H : Hp) (v : V) (d : D) : Prop :=
  ∃ (p : Addr) (vs : List V) (ds : List D), v = V.ref p ∧ d = D.lst ds ∧ H p = some (.lst vs) ∧ H0 p = none ∧ p ≠ c.pa ∧ vs.length ≤ sizeLine ∧ Reps c H0 vs ds
theorem OwnR.grow {c : Cfg} {H0 H H0' H' : Hp} {v : V} {d : D} (g : Grow c H0 H H0' H') (h : OwnR c H0 H v d) : OwnR c H0' H' v d := by
  obtain ⟨p, vs, ds, e1, e2, h1, h2, h3, z, r⟩ := h
  exact ⟨p, vs, ds, e1, e2, (g.old p _ h3 lst_nt h1 h2).1, (g.old p _ h3 lst_nt h1 h2).2, h3, z, r.mono g.fast⟩
/-- an instance that is being made -/
def InsR (c : Cfg) (H0 H : Hp) (v : V) (n : Nat) (fs : List (String × D)) : Prop :=
  ∃ (p dx : Addr) (gs : List (Str × V)) (vs : List V), v = V.ref p ∧ H p = some (.ins (c.cl n) dx gs) ∧ H0 p = none ∧ p ≠ c.pa ∧ gs.length ≤ fs.length ∧ FldsAre (fs.map (·.1)) gs vs ∧ Reps c H0 vs (fs.map (·.2)) ∧ c.used n = true ∧ c.xs = false
theorem ins_nt {C dx : Addr} {gs : List (Str × V)} : ∀ ps, HO.ins C dx gs ≠ .tbl ps := by
  intro _ h
  cases h
theorem InsR.grow {c : Cfg} {H0 H H0' H' : Hp} {v : V} {n : Nat} {fs : List (String × D)} (g : Grow c H0 H H0' H') (h : InsR c H0 H v n fs) : InsR c H0' H' v n fs := by
  obtain ⟨p, dx, gs, vs, e1, h1, h2, h3, h4, h5, r, u⟩ := h
  exact ⟨p, dx, gs, vs, e1, (g.old p _ h3 ins_nt h1 h2).1, (g.old p _ h3 ins_nt h1 h2).2, h3, h4, h5, r.mono g.fast, u⟩
/-! ### slots -/
def SlotOk (c : Cfg) (H0 H : Hp) (s : Option V) : SD → Prop
  | .no => True
  | .val d => ∃ v, s = some v ∧ Rep c H0 v d
  | .own ds => ∃ v, s = some v ∧ OwnR c H0 H v (.lst ds)
  | .ins n fs => ∃ v, s = some v ∧ InsR c H0 H v n fs
structure EnvOk (c : Cfg) (H0 H : Hp) (σ : L2.St) (ρ : Env) : Prop where
  len : σ.length = ρ.length
  slot : ∀ (i : Nat) s r, σ[i]? = some s → ρ[i]? = some r → SlotOk c H0 H s r
  apart : ∀ (i j : Nat) l m v, i ≠ j → ρ[i]? = some (.own l) → ρ[j]? = some (.own m) → σ[i]? = some (some v) → σ[j]? ≠ some (some v)
structure Rel (c : Cfg) (H0 H : Hp) (σ : L2.St) (ρ : Env) (st : PenSt) : Prop where
  sub : Same H0 H
  pen : PenAt c H0 H st
  env : EnvOk c H0 H σ ρ
theorem SlotOk.grow {c : Cfg} {H0 H H0' H' : Hp} {s : Option V} {r : SD} (g : Grow c H0 H H0' H') (h : SlotOk c H0 H s r) : SlotOk c H0' H' s r := by
  cases r with
  | no => exact h
  | val d =>
    obtain ⟨v, e, r⟩ := h
    exact ⟨v, e, r.mono g.fast⟩
  | own ds =>
    obtain ⟨v, e, r⟩ := h
    exact ⟨v, e, r.grow g⟩
  | ins n fs =>
    obtain ⟨v, e, r⟩ := h
    exact ⟨v, e, r.grow g⟩
theorem EnvOk.grow {c : Cfg} {H0 H H0' H' : Hp} {σ : L2.St} {ρ : Env} (g : Grow c H0 H H0' H') (h : EnvOk c H0 H σ ρ) : EnvOk c H0' H' σ ρ :=
  ⟨h.len, fun i s r e1 e2 => (h.slot i s r e1 e2).grow g, h.apart⟩
theorem Rel.grow {c : Cfg} {H0 H H0' H' : Hp} {σ : L2.St} {ρ : Env} {st st' : PenSt} (h : Rel c H0 H σ ρ st) (g : Grow c H0 H H0' H') (p : PenAt c H0' H' st') : Rel c H0' H' σ ρ st' :=
  ⟨g.sub, p, h.env.grow g⟩

/-! ### what is wanted of an evaluation -/
/-- an error that flies: its class, its own dict -/
def ErrAt (c : Cfg) (H0 H : Hp) (ec : Nat → Addr) (e : Err) (cls : Value) (d : Option Addr) : Prop :=
  cls = .ref (ec e.c) ∧ ∃ dx fs vs, d = some dx ∧ H dx = some (.xd fs) ∧ H0 dx = none ∧ dx ≠ c.pa ∧ FldsAre (c.F (1000 + e.c)) fs vs ∧ Reps c H0 vs e.l
/-- how what comes stands for what is computed -/
abbrev RP (W α : Type) : Type := W → α → Hp → Hp → Prop
structure Cf where
  c : Cfg
  ec : Nat → Addr
def Fin {W α : Type} (f : Cf) (E : XK) (rp : RP W α) (H0 H : Hp) (r : Res α) (Q : W → Hp → Prop) : Prop :=
  match r with
  | .ok a st' => ∀ w H0' H', Grow f.c H0 H H0' H' → PenAt f.c H0' H' st' → rp w a H0' H' → Q w H'
  | .err e st' => ∀ cls dd H0' H', Grow f.c H0 H H0' H' → PenAt f.c H0' H' st' → ErrAt f.c H0' H' f.ec e cls dd → E cls dd H'
  | .bad => False
theorem Fin.grow {W α : Type} {f : Cf} {E : XK} {rp : RP W α} {H0 H H0' H' : Hp} {r : Res α} {Q : W → Hp → Prop} (h : Fin f E rp H0 H r Q) (g : Grow f.c H0 H H0' H') : Fin f E rp H0' H' r Q := by
  cases r with
  | ok a st => exact fun w G0 G g' p q => h w G0 G (g.trans g') p q
  | err e st => exact fun cls dd G0 G g' p q => h cls dd G0 G (g.trans g') p q
  | bad => exact h
/-- the reading of a computation over the slots -/
def tM {W α : Type} (f : Cf) (E : XK) (rp : RP W α) (m : Env → M α) : L2.St → Hp → (W → Hp → Prop) → Prop := fun σ H Q =>
  ∃ H0 ρ st, Rel f.c H0 H σ ρ st ∧ Fin f E rp H0 H (m ρ st) Q
/-- behind the first of two -/
theorem Fin.bind {W U α β : Type} {f : Cf} {E : XK} {rp : RP W α} {rq : RP U β} {H0 H : Hp} {m : M α} {k : α → M β} {st : PenSt} {Q : U → Hp → Prop} (h : Fin f E rq H0 H (M.bind m k st) Q) :
    Fin f E rp H0 H (m st) fun w H1 => ∃ a st1 G0, Grow f.c H0 H G0 H1 ∧ PenAt f.c G0 H1 st1 ∧ rp w a G0 H1 ∧ Fin f E rq G0 H1 (k a st1) Q := by
  unfold M.bind at h
  cases e : m st with
  | ok a s1 =>
    rw [e] at h
    exact fun w G0 G g p q => ⟨a, s1, G0, g, p, q, Fin.grow h g⟩
  | err x s1 =>
    rw [e] at h
    exact h
  | bad =>
    rw [e] at h
    exact h
theorem Fin.imp {W α : Type} {f : Cf} {E : XK} {rp : RP W α} {H0 H : Hp} {r : Res α} {Q Q' : W → Hp → Prop} (h : Fin f E rp H0 H r Q) (k : ∀ w H', Q w H' → Q' w H') : Fin f E rp H0 H r Q' := by
  cases r with
  | ok a st => exact fun w G0 G g p q => k _ _ (h w G0 G g p q)
  | err e st => exact h
  | bad => exact h
theorem tM.imp {W α : Type} {f : Cf} {E : XK} {rp : RP W α} {m : Env → M α} {σ : L2.St} {H : Hp} {Q Q' : W → Hp → Prop} (h : tM f E rp m σ H Q) (k : ∀ w H', Q w H' → Q' w H') : tM f E rp m σ H Q' := by
  obtain ⟨H0, ρ, st, r, q⟩ := h
  exact ⟨H0, ρ, st, r, q.imp k⟩
/-- the state behind a part: the slots' relation, what came, what is still wanted -/
def Then {W U α β : Type} (f : Cf) (E : XK) (rp : RP W α) (rq : RP U β) (k : Env → α → M β) (σ : L2.St) (w : W) (H : Hp) (Q : U → Hp → Prop) : Prop :=
  ∃ a H0 ρ st, Rel f.c H0 H σ ρ st ∧ rp w a H0 H ∧ Fin f E rq H0 H (k ρ a st) Q
theorem tM.bind {W U α β : Type} {f : Cf} {E : XK} (rp : RP W α) {rq : RP U β} {m : Env → M α} {k : Env → α → M β} {σ : L2.St} {H : Hp} {Q : U → Hp → Prop} (h : tM f E rq (fun ρ => M.bind (m ρ) (k ρ)) σ H Q) :
    tM f E rp m σ H fun w H1 => Then f E rp rq k σ w H1 Q := by
  obtain ⟨H0, ρ, st, r, q⟩ := h
  exact ⟨H0, ρ, st, r, (Fin.bind (rp := rp) q).imp fun w H1 ⟨a, s1, G0, g, p, x, y⟩ => ⟨a, G0, ρ, s1, r.grow g p, x, y⟩⟩
/-- a second part behind the first, what came first carried along -/
theorem Then.bind {W U Y α β γ : Type} {f : Cf} {E : XK} {rp : RP W α} (rp2 : RP U β) {rq : RP Y γ} {m : Env → M β} {k : Env → α → β → M γ} {σ : L2.St} {w : W} {H : Hp} {Q : Y → Hp → Prop} (mono : ∀ w a H0 H H0' H', Grow f.c H0 H H0' H' → rp w a H0 H → rp w a H0' H')
    (h : Then f E rp rq (fun ρ a => M.bind (m ρ) (k ρ a)) σ w H Q) :
    tM f E rp2 m σ H fun u H1 => ∃ a b H0 ρ st, Rel f.c H0 H1 σ ρ st ∧ rp w a H0 H1 ∧ rp2 u b H0 H1 ∧ Fin f E rq H0 H1 (k ρ a b st) Q := by
  obtain ⟨a, H0, ρ, st, r, x, q⟩ := h
  exact ⟨H0, ρ, st, r, (Fin.bind (rp := rp2) q).imp fun u H1 ⟨b, s1, G0, g, p, y, z⟩ => ⟨a, b, G0, ρ, s1, r.grow g p, mono _ _ _ _ _ _ g x, y, z⟩⟩

/-! ### hard, soft -/
def hardP (c : Cfg) : RP V D := fun v d H0 _ => Rep c H0 v d
def softP (c : Cfg) : RP V D := fun v d H0 H => Rep c H0 v d ∨ OwnR c H0 H v d
def boolP : RP Bool Bool := fun w a _ _ => w = a
def rpE (c : Cfg) (e : E) : RP V D := if isBor e then softP c else hardP c
def rpL (c : Cfg) : E → RP (List V) (List D)
  | .cons a r => fun vs ds H0 H => ∃ v vr d dr, vs = v :: vr ∧ ds = d :: dr ∧ rpE c a v d H0 H ∧ rpL c r vr dr H0 H
  | _ => fun vs ds _ _ => vs = [] ∧ ds = []
inductive Softs (c : Cfg) (H0 H : Hp) : List V → List D → Prop
  | nil : Softs c H0 H [] []
  | cons {v : V} {d : D} {vs : List V} {ds : List D} : softP c v d H0 H → Softs c H0 H vs ds → Softs c H0 H (v :: vs) (d :: ds)
theorem softP_mono {c : Cfg} {v : V} {d : D} {H0 H H0' H' : Hp} (g : Grow c H0 H H0' H') (h : softP c v d H0 H) : softP c v d H0' H' := h.elim (fun r => .inl (r.mono g.fast)) fun r => .inr (r.grow g)
theorem rpE_mono {c : Cfg} {e : E} {v : V} {d : D} {H0 H H0' H' : Hp} (g : Grow c H0 H H0' H') (h : rpE c e v d H0 H) : rpE c e v d H0' H' := by
  unfold rpE at h ⊢
  split at h
  · rename_i q
    rw [if_pos q]
    exact softP_mono g h
  · rename_i q
    rw [if_neg q]
    exact Rep.mono g.fast h
theorem rpE_soft {c : Cfg} {e : E} {v : V} {d : D} {H0 H : Hp} (h : rpE c e v d H0 H) : softP c v d H0 H := by
  unfold rpE at h
  split at h
  · exact h
  · exact .inl h
theorem rpE_hard {c : Cfg} {e : E} {v : V} {d : D} {H0 H : Hp} (n : isBor e = false) (h : rpE c e v d H0 H) : Rep c H0 v d := by
  unfold rpE at h
  rw [n] at h
  exact h
theorem rpE_eq {c : Cfg} {e : E} (n : isBor e = false) : rpE c e = hardP c := by
  unfold rpE
  rw [n]
  rfl
theorem rpL_mono {c : Cfg} : ∀ {r : E} {vs : List V} {ds : List D} {H0 H H0' H' : Hp}, Grow c H0 H H0' H' → rpL c r vs ds H0 H → rpL c r vs ds H0' H' := by
  intro r
  induction r with
  | cons a r _ ih =>
    intro vs ds H0 H H0' H' g h
    obtain ⟨v, vr, d, dr, e1, e2, h1, h2⟩ := h
    exact ⟨v, vr, d, dr, e1, e2, rpE_mono g h1, ih g h2⟩
  | _ =>
    intro vs ds H0 H H0' H' g h
    exact h
theorem rpL_soft {c : Cfg} : ∀ {r : E} {vs : List V} {ds : List D} {H0 H : Hp}, rpL c r vs ds H0 H → Softs c H0 H vs ds := by
  intro r
  induction r with
  | cons a r _ ih =>
    intro vs ds H0 H h
    obtain ⟨v, vr, d, dr, rfl, rfl, h1, h2⟩ := h
    exact .cons (rpE_soft h1) (ih h2)
  | _ =>
    intro vs ds H0 H h
    obtain ⟨rfl, rfl⟩ := h
    exact .nil
theorem rpL_hard {c : Cfg} : ∀ {r : E} {vs : List V} {ds : List D} {H0 H : Hp}, hards r = true → rpL c r vs ds H0 H → Reps c H0 vs ds := by
  intro r
  induction r with
  | cons a r _ ih =>
    intro vs ds H0 H n h
    obtain ⟨v, vr, d, dr, rfl, rfl, h1, h2⟩ := h
    simp only [hards, Bool.and_eq_true, Bool.not_eq_true'] at n
    exact .cons (rpE_hard n.1 h1) (ih n.2 h2)
  | _ =>
    intro vs ds H0 H n h
    obtain ⟨rfl, rfl⟩ := h
    exact .nil

/-! ### a step by values: the pen stays -/
structure Step (c : Cfg) (H0 H H0' H' : Hp) : Prop where
  g : Grow c H0 H H0' H'
  p : ∀ st, PenAt c H0 H st → PenAt c H0' H' st
theorem Step.refl {c : Cfg} {H0 H : Hp} (s : Same H0 H) : Step c H0 H H0 H := ⟨.refl s, fun _ h => h⟩
theorem Step.new {c : Cfg} {H0 H : Hp} {p : Addr} {o : HO} (s : Same H0 H) (np : H p = none) (ho : ∀ ps, o ≠ .tbl ps := by intro _ h; cases h) : Step c H0 H (upd H0 p o) (upd H p o) := ⟨.new s np, fun _ h => h.new s np ho⟩
theorem Step.loose {c : Cfg} {H0 H : Hp} {p : Addr} {o : HO} (s : Same H0 H) (np : H p = none) : Step c H0 H H0 (upd H p o) := ⟨.loose s np, fun _ h => h.loose np⟩
theorem Step.trans {c : Cfg} {H0 H H1 G1 H2 G2 : Hp} (a : Step c H0 H H1 G1) (b : Step c H1 G1 H2 G2) : Step c H0 H H2 G2 := ⟨a.g.trans b.g, fun st h => b.p st (a.p st h)⟩
/-- what a computation by values leaves: R -/
def Val (c : Cfg) (H0 H : Hp) (o : Option D) (Q : VK) : Prop := ∃ d, o = some d ∧ ∀ v H0' H', Step c H0 H H0' H' → Rep c H0' v d → Q v H'
theorem Fin.val {f : Cf} {E : XK} {H0 H : Hp} {o : Option D} {st : PenSt} {Q : VK} (p : PenAt f.c H0 H st) (h : Fin f E (hardP f.c) H0 H (M.of o st) Q) : Val f.c H0 H o Q := by
  cases o with
  | none => exact h.elim
  | some d => exact ⟨d, rfl, fun v G0 G s r => h v G0 G s.g (s.p _ p) r⟩
theorem Softs.length {c : Cfg} {H0 H : Hp} : ∀ {vs : List V} {ds : List D}, Softs c H0 H vs ds → vs.length = ds.length
  | _, _, .nil => rfl
  | _, _, .cons _ r => by rw [List.length_cons, List.length_cons, Softs.length r]
/-- a list's items, soft or hard -/
theorem soft_lst {c : Cfg} {H0 H : Hp} {v : V} {ds : List D} (s : Same H0 H) (h : softP c v (.lst ds) H0 H) : ∃ a vs, v = .ref a ∧ H a = some (.lst vs) ∧ vs.length ≤ sizeLine ∧ Reps c H0 vs ds := by
  rcases h with h | ⟨p, vs, ds', e1, e2, h1, _, _, z, r⟩
  · cases h with
    | lst h z r => exact ⟨_, _, rfl, s _ _ h, z, r⟩
  · cases e2
    exact ⟨p, vs, e1, h1, z, r⟩
theorem soft_tup {c : Cfg} {H0 H : Hp} {v : V} {ds : List D} (s : Same H0 H) (h : softP c v (.tup ds) H0 H) : ∃ a vs, v = .ref a ∧ SqT c.K H a vs ∧ vs.length ≤ sizeLine ∧ Reps c H0 vs ds := by
  rcases h with h | ⟨p, vs, ds', e1, e2, _⟩
  · cases h with
    | tup h z r => exact ⟨_, _, rfl, same_sqT s h, z, r⟩
  · cases e2
theorem soft_int {c : Cfg} {H0 H : Hp} {v : V} {i : Int} (h : softP c v (.int i) H0 H) : v = .int i := by
  rcases h with h | ⟨p, vs, ds', e1, e2, _⟩
  · cases h
    rfl
  · cases e2
theorem soft_bl {c : Cfg} {H0 H : Hp} {v : V} {b : Bool} (h : softP c v (.bl b) H0 H) : v = .bl b := by
  rcases h with h | ⟨p, vs, ds', e1, e2, _⟩
  · cases h
    rfl
  · cases e2
theorem soft_non {c : Cfg} {H0 H : Hp} {v : V} (h : softP c v .non H0 H) : v = .non := by
  rcases h with h | ⟨p, vs, ds', e1, e2, _⟩
  · cases h
    rfl
  · cases e2
theorem soft_str {c : Cfg} {H0 H : Hp} {v : V} {s : Str} (h : softP c v (.str s) H0 H) : v = .str s := by
  rcases h with h | ⟨p, vs, ds', e1, e2, _⟩
  · cases h
    rfl
  · cases e2
/-- a new tuple, a new list that stand fast -/
theorem Rep.newT {c : Cfg} {H0 : Hp} {p : Addr} {vs : List V} {ds : List D} (np : H0 p = none) (z : vs.length ≤ sizeLine) (r : Reps c H0 vs ds) : Rep c (upd H0 p (.tup vs)) (.ref p) (.tup ds) :=
  .tup (SqT.of upd_same) z (r.mono fun b o e => by rw [upd_ne (ne_of_none e np)]; exact e)
theorem Rep.newL {c : Cfg} {H0 : Hp} {p : Addr} {vs : List V} {ds : List D} (np : H0 p = none) (z : vs.length ≤ sizeLine) (r : Reps c H0 vs ds) : Rep c (upd H0 p (.lst vs)) (.ref p) (.lst ds) :=
  .lst upd_same z (r.mono fun b o e => by rw [upd_ne (ne_of_none e np)]; exact e)
end VC
set_option Elab.async false
set_option linter.all false
set_option maxRecDepth 100000
set_option maxHeartbeats 1000000
/-! VCc: the operations by values keep what the evaluator says. -/
namespace VC
open PySem PySem.Spec PyProof.Rows L2
def opOf : Op2 → Operator
  | .add => .Add | .sub => .Sub | .mul => .Mult | .fdiv => .FloorDiv | .mod => .Mod | .pow => .Pow
def cmpOf : Cmp → CmpOp
  | .eq => .Eq | .ne => .NotEq | .lt => .Lt | .le => .LtE | .gt => .Gt | .ge => .GtE | .isin => .In | .notin => .NotIn | .is => .Is | .isnot => .IsNot
def rV2 (c : Cfg) (f : D → D → Option D) : R2 := fun x y H Q => ∃ H0 dx dy, Same H0 H ∧ softP c x dx H0 H ∧ softP c y dy H0 H ∧ Val c H0 H (f dx dy) Q
theorem big_ok {i j : Int} (h : i.natAbs < BIG ∧ j.natAbs < BIG) : CMulW i j := by
  unfold BIG at h
  exact wide_mul (a := 400000) (b := 400000) h.1 h.2 (by decide) (by decide) (by decide)
theorem size_le {n : Nat} (h : n ≤ 1000000) : n ≤ sizeLine := Nat.le_trans h (by rw [sizeLine_eq]; decide)
section
variable {X : Cx} {c : Cfg}
theorem op_fdivD : OpR X (binaryOp .FloorDiv) (rI (fun _ j => j ≠ 0 ∧ j.natAbs < BIGD) fun i j => .int (i.fdiv j)) := opI fun i j _ _ _ _ _ hc q =>
  floordiv_int hc.1 q (.inl (PyProof.noPylong_of_log2 (PySem.Flt.log2_lt_of (by decide) (by have h := hc.2; unfold BIGD at h; exact h))))
theorem rep_tup {H0 H : Hp} {p : Addr} {vs : List V} {ds : List D} (n0 : H0 p = none) (z : vs.length ≤ sizeLine) (r : Reps c H0 vs ds) {Q : VK} (sm : Same H0 H) (np : H p = none)
    (q : ∀ v H0' H', Step c H0 H H0' H' → Rep c H0' v (.tup ds) → Q v H') : Q (.ref p) (upd H p (.tup vs)) := q _ _ _ (.new sm np) (.newT n0 z r)
theorem rep_lst {H0 H : Hp} {p : Addr} {vs : List V} {ds : List D} (n0 : H0 p = none) (z : vs.length ≤ sizeLine) (r : Reps c H0 vs ds) {Q : VK} (sm : Same H0 H) (np : H p = none)
    (q : ∀ v H0' H', Step c H0 H H0' H' → Rep c H0' v (.lst ds) → Q v H') : Q (.ref p) (upd H p (.lst vs)) := q _ _ _ (.new sm np) (.newL n0 z r)
theorem op_add' (hK : X.K = c.K) : OpR X (binaryOp .Add) (rV2 c dAdd) := by
  intro pins s σ H x y v u Q I rx ry ⟨H0, dx, dy, sm, hx, hy, d, e, q⟩
  unfold dAdd at e
  split at e
  · have e1 := soft_int hx; subst e1
    have e2 := soft_int hy; subst e2
    cases e
    exact op_add pins s σ H _ _ v u Q I rx ry ⟨_, _, rfl, rfl, q _ _ _ (.refl sm) (.int _)⟩
  · split at e
    · rename_i hz
      cases e
      obtain ⟨a, vs, rfl, ha, za, ra⟩ := soft_tup sm hx
      obtain ⟨b, ws, rfl, hb, zb, rb⟩ := soft_tup sm hy
      have hl : vs.length + ws.length ≤ sizeLine := by rw [ra.length, rb.length]; exact size_le hz
      refine op_catA pins s σ H _ _ v u Q I rx ry ⟨a, b, vs, ws, rfl, rfl, by rw [hK]; exact ha, by rw [hK]; exact hb, hl, fun e0 => ?_, fun _ e0 => ?_, fun _ _ p np => ?_⟩
      · subst e0
        cases ra
        rcases hy with hy | ⟨_, _, _, _, e9, _⟩
        · exact q _ _ _ (.refl sm) hy
        · cases e9
      · subst e0
        cases rb
        rw [List.append_nil] at q
        rcases hx with hx | ⟨_, _, _, _, e9, _⟩
        · exact q _ _ _ (.refl sm) hx
        · cases e9
      · exact rep_tup (sm.free np) (by rw [List.length_append]; exact hl) (ra.append rb) sm np q
    · cases e
  · split at e
    · rename_i hz
      cases e
      obtain ⟨a, vs, rfl, ha, za, ra⟩ := soft_lst sm hx
      obtain ⟨b, ws, rfl, hb, zb, rb⟩ := soft_lst sm hy
      have hl : vs.length + ws.length ≤ sizeLine := by rw [ra.length, rb.length]; exact size_le hz
      exact op_cat pins s σ H _ _ v u Q I rx ry ⟨a, b, vs, ws, rfl, rfl, ha, hb, hl, fun p np => rep_lst (sm.free np) (by rw [List.length_append]; exact hl) (ra.append rb) sm np q⟩
    · cases e
  · cases e
theorem op_sub' : OpR X (binaryOp .Sub) (rV2 c dSub) := by
  intro pins s σ H x y v u Q I rx ry ⟨H0, dx, dy, sm, hx, hy, d, e, q⟩
  unfold dSub at e
  split at e
  · have e1 := soft_int hx; subst e1
    have e2 := soft_int hy; subst e2
    cases e
    exact op_sub pins s σ H _ _ v u Q I rx ry ⟨_, _, rfl, rfl, q _ _ _ (.refl sm) (.int _)⟩
  · cases e
theorem tuple_mul1 (l : Addr) (items : Array Value) (n : Nat) (dd : Option Addr) (sl : Array (Option Value)) (x : Int) (u : Tok) (c0 : (decide (x < -(2 ^ 63)) || decide (x ≥ 2 ^ 63)) = false) (c1 : (items.isEmpty || x == 1) = true) :
    Meets (Builtin.«tuple.__mul__» ⟨[.ref l, .int x u], []⟩) (fun _ R s => s.heap.get? l = some { cls := .type "tuple", dict := dd, data := .seq items n, slots := sl } ∧ R (.ok (.ret (Value.ref l))) s) :=
  .of_wp fun prog w A R s h => by
    obtain ⟨hp, g, d, tk, os⟩ := s
    obtain ⟨hl, h⟩ := h
    have f1 := AutoSeq1.idx_int
    wp_walk using wpAny_loadPart' hl
    repeat (first
      | (refine wpAny_ite_false (decide_eq_false (by rw [c0]; exact Bool.false_ne_true)) ?_; wp_walk using wpAny_loadPart' hl)
      | (refine wpAny_ite_true (decide_eq_true c1) ?_; wp_walk using wpAny_loadPart' hl))
    exact ⟨_, rfl, h⟩
theorem tuple_mul0 (l : Addr) (items : Array Value) (n : Nat) (dd : Option Addr) (sl : Array (Option Value)) (x : Int) (u : Tok) (c0 : (decide (x < -(2 ^ 63)) || decide (x ≥ 2 ^ 63)) = false) (c1 : (items.isEmpty || x == 1) = false) (c2 : (decide (x ≤ 0) || items.isEmpty) = true) :
    Meets (Builtin.«tuple.__mul__» ⟨[.ref l, .int x u], []⟩) (fun _ R s => s.heap.get? l = some { cls := .type "tuple", dict := dd, data := .seq items n, slots := sl } ∧
      R (.ok (.ret (Value.ref s.heap.objs.size))) { s with heap := s.heap.push { cls := Value.type "tuple", data := Data.seq #[] }, toks := s.toks }) :=
  .of_wp fun prog w A R s h => by
    obtain ⟨hp, g, d, tk, os⟩ := s
    obtain ⟨hl, h⟩ := h
    have f1 := AutoSeq1.idx_int
    wp_walk using wpAny_loadPart' hl
    repeat (first
      | (refine wpAny_ite_false (decide_eq_false (by rw [c0]; exact Bool.false_ne_true)) ?_; wp_walk using wpAny_loadPart' hl)
      | (refine wpAny_ite_false (decide_eq_false (by rw [c1]; exact Bool.false_ne_true)) ?_; wp_walk using wpAny_loadPart' hl)
      | (refine wpAny_ite_true (decide_eq_true c2) ?_; wp_walk using wpAny_loadPart' hl))
    exact ⟨_, rfl, h⟩
theorem op_mul' (hK : X.K = c.K) : OpR X (binaryOp .Mult) (rV2 c dMul) := by
  intro pins s σ H x y v u Q I rx ry ⟨H0, dx, dy, sm, hx, hy, d, e, q⟩
  unfold dMul at e
  split at e
  · split at e
    · rename_i hz
      cases e
      have e1 := soft_int hx; subst e1
      have e2 := soft_int hy; subst e2
      exact op_mulW pins s σ H _ _ v u Q I rx ry ⟨_, _, rfl, rfl, big_ok hz, q _ _ _ (.refl sm) (.int _)⟩
    · cases e
  · rename_i a k
    split at e
    · rename_i hz
      cases e
      obtain ⟨l, xs, rfl, ha, za, ra⟩ := soft_tup sm hx
      have e2 := soft_int hy; subst e2
      rw [← hK] at ha
      by_cases h0 : xs ≠ [] ∧ 2 ≤ k
      · refine op_repT pins s σ H _ _ v u Q I rx ry ⟨l, k, xs, rfl, rfl, ha, h0.1, h0.2, hz.1, by rw [ra.length]; exact hz.2.2, fun p np => rep_tup (sm.free np) ?_ (ra.flat _) sm np q⟩
        rw [PyProof.Rows.lm_len_rep_flat]
        refine size_le (Nat.le_trans (Nat.mul_le_mul (show k.toNat ≤ 1000 by omega) (show xs.length ≤ 1000 by rw [ra.length]; exact hz.2.2)) (by decide))
      · cases rx
        obtain ⟨t, rfl⟩ := ry
        obtain ⟨its, r, ⟨⟨cls, dd, data, sl⟩, ho, hc, n, hd⟩, hs⟩ := I.tuple ha
        simp only at hc hd
        subst hc hd
        have c0 : (decide (k < -(2 ^ 63)) || decide (k ≥ 2 ^ 63)) = false := by
          rw [decide_eq_false (by omega), decide_eq_false (by omega)] <;> rfl
        by_cases h1 : (its.toArray.isEmpty || k == 1) = true
        · refine wpAny_binaryOp_repeat_ref (T := "tuple") (U := "int") (by decide) ⟨_, ho, rfl⟩ (fun s' => typeIs_int s' k t) noFill_tuple_mul F.fills_int_mul F.slot_int_rmul repeat_tuple F.slot_int_index.lookup
            (call_meets F.slot_int_rmul (typeIs_int s k t) F.entry_int_rmul (F.args_int_rmul_2 _ _) (int_rmul_tuple k t l its.toArray n dd sl)
              ⟨ho, rfl, ⟨_, ho, rfl⟩, call_meets F.slot_tuple_mul ⟨_, ho, rfl⟩ F.entry_tuple_mul (F.args_tuple_mul_2 _ _) (tuple_mul1 l its.toArray n dd sl k t c0 h1) ⟨ho, ?_⟩⟩)
          have hx' : Rep c H0 (.ref l) (.tup a) := by
            rcases hx with hx | ⟨_, _, _, _, e9, _⟩
            · exact hx
            · cases e9
          have ee : (List.replicate k.toNat a).flatten = a := by
            by_cases hk : k = 1
            · subst hk
              simp
            · have hi : its = [] := by
                have : (k == 1) = false := beq_eq_false_iff_ne.mpr hk
                rw [this, Bool.or_false] at h1
                simpa using h1
              subst hi
              cases r
              cases ra
              simp
          rw [ee] at q
          exact ⟨.ref l, H, I, rfl, q _ _ _ (.refl sm) hx'⟩
        · have h1 : (its.toArray.isEmpty || k == 1) = false := by simpa using h1
          have hk : k ≤ 0 := by
            simp only [Bool.or_eq_false_iff] at h1
            have n1 : k ≠ 1 := by simpa using h1.2
            have n0 : xs ≠ [] := fun z => by
              subst z
              cases r
              simp at h1
            have : ¬ 2 ≤ k := fun z => h0 ⟨n0, z⟩
            omega
          refine wpAny_binaryOp_repeat_ref (T := "tuple") (U := "int") (by decide) ⟨_, ho, rfl⟩ (fun s' => typeIs_int s' k t) noFill_tuple_mul F.fills_int_mul F.slot_int_rmul repeat_tuple F.slot_int_index.lookup
            (call_meets F.slot_int_rmul (typeIs_int s k t) F.entry_int_rmul (F.args_int_rmul_2 _ _) (int_rmul_tuple k t l its.toArray n dd sl)
              ⟨ho, rfl, ⟨_, ho, rfl⟩, call_meets F.slot_tuple_mul ⟨_, ho, rfl⟩ F.entry_tuple_mul (F.args_tuple_mul_2 _ _) (tuple_mul0 l its.toArray n dd sl k t c0 h1 (by rw [decide_eq_true hk]; rfl)) ⟨ho, ?_⟩⟩)
          have ee : (List.replicate k.toNat a).flatten = [] := by
            rw [show k.toNat = 0 by omega]
            rfl
          rw [ee] at q
          have np : H s.heap.objs.size = none := I.hok.fresh (Nat.le_refl _)
          refine ⟨.ref s.heap.objs.size, _, I.laid (t' := s.toks) (o := .tup []) (fun b ob q => Heap.get?_push_of_some _ q) (Nat.le_refl _) ⟨Nat.zero_le _, [], .nil, IsTup.new _ _⟩, rfl, rep_tup (sm.free np) (Nat.zero_le _) .nil sm np q⟩
    · cases e
  · rename_i a k
    split at e
    · rename_i hz
      cases e
      obtain ⟨l, vs, rfl, ha, za, ra⟩ := soft_lst sm hx
      have e2 := soft_int hy; subst e2
      have hl : vs.length * k.toNat ≤ sizeLine := size_le (Nat.le_trans (Nat.mul_le_mul (show vs.length ≤ 1000 by rw [ra.length]; exact hz.2.2) (show k.toNat ≤ 1000 by omega)) (by decide))
      refine op_rep pins s σ H _ _ v u Q I rx ry ⟨l, _, vs, rfl, rfl, ha, by omega, by omega, hl, fun p np => rep_lst (sm.free np) ?_ (ra.flat _) sm np q⟩
      rw [PyProof.Rows.lm_len_rep_flat, Nat.mul_comm]
      exact hl
    · cases e
  · cases e
theorem op_div' : OpR X (binaryOp .FloorDiv) (rV2 c dDiv) := by
  intro pins s σ H x y v u Q I rx ry ⟨H0, dx, dy, sm, hx, hy, d, e, q⟩
  unfold dDiv at e
  split at e
  · split at e
    · rename_i hz
      cases e
      have e1 := soft_int hx; subst e1
      have e2 := soft_int hy; subst e2
      exact op_fdivD pins s σ H _ _ v u Q I rx ry ⟨_, _, rfl, rfl, hz, q _ _ _ (.refl sm) (.int _)⟩
    · cases e
  · cases e
theorem op_mod' : OpR X (binaryOp .Mod) (rV2 c dMod) := by
  intro pins s σ H x y v u Q I rx ry ⟨H0, dx, dy, sm, hx, hy, d, e, q⟩
  unfold dMod at e
  split at e
  · split at e
    · rename_i hz
      cases e
      have e1 := soft_int hx; subst e1
      have e2 := soft_int hy; subst e2
      exact op_modN pins s σ H _ _ v u Q I rx ry ⟨_, _, rfl, rfl, hz, q _ _ _ (.refl sm) (.int _)⟩
    · cases e
  · cases e
theorem op_pow' : OpR X (binaryOp .Pow) (rV2 c dPow) := by
  intro pins s σ H x y v u Q I rx ry ⟨H0, dx, dy, sm, hx, hy, d, e, q⟩
  unfold dPow at e
  split at e
  · split at e
    · rename_i hz
      cases e
      have e1 := soft_int hx; subst e1
      have e2 := soft_int hy; subst e2
      exact op_pow pins s σ H _ _ v u Q I rx ry ⟨_, _, rfl, rfl, hz, q _ _ _ (.refl sm) (.int _)⟩
    · cases e
  · cases e
theorem op_d2 (hK : X.K = c.K) : ∀ o : Op2, OpR X (binaryOp (opOf o)) (rV2 c (d2 o))
  | .add => op_add' hK
  | .sub => op_sub'
  | .mul => op_mul' hK
  | .fdiv => op_div'
  | .mod => op_mod'
  | .pow => op_pow'
end
end VC
set_option Elab.async false
set_option linter.all false
set_option maxRecDepth 100000
set_option maxHeartbeats 1000000
/-! VCd: comparisons, truth, what is called by its name, by values. -/
namespace VC
open PySem PySem.Spec PyProof.Rows L2
def rC2 (c : Cfg) (f : D → D → Option Bool) : R2 := fun x y H Q => ∃ H0 dx dy b, Same H0 H ∧ softP c x dx H0 H ∧ softP c y dy H0 H ∧ f dx dy = some b ∧ Q (.bl b) H
section
variable {c : Cfg} {H0 H : Hp}
mutual
theorem Rep.dp (sm : Same H0 H) : ∀ {v : V} {d : D}, Rep c H0 v d → d.plain = true → d.py.canLay0 = true → Dp c.K H v d.py
  | _, _, .non, _, _ => .non
  | _, _, .bl b, _, _ => .bl b
  | _, _, .int i, _, _ => .int i
  | _, _, .str s, _, _ => .str s
  | _, _, .tup h z r, p, q => .tup (same_sqT sm h) (Reps.dp sm r (by simpa [D.plain] using p) (by simpa [D.py, PyData.canLay0] using q))
  | _, _, .lst h z r, p, q => .lst (SqL.of (sm _ _ h)) (Reps.dp sm r (by simpa [D.plain] using p) (by simpa [D.py, PyData.canLay0] using q))
  | _, _, .dic h r, p, q => by simp [D.py, PyData.canLay0] at q
  | _, _, .obj x h u f r, p, q => by simp [D.plain] at p
  | _, _, .exc _ _ _ _ _ _, p, q => by simp [D.plain] at p
  | _, _, .exc0 _ _ _ _, p, q => by simp [D.plain] at p
  | _, _, .pen, p, q => by simp [D.plain] at p
  | _, _, .lam _ _ _ _, p, q => by simp [D.plain] at p
theorem Reps.dp (sm : Same H0 H) : ∀ {vs : List V} {ds : List D}, Reps c H0 vs ds → plains ds = true → PyData.canLayAll0 (pys ds) = true → DpAll c.K H vs (pys ds)
  | _, _, .nil, _, _ => .nil
  | _, _, .cons h r, p, q => by
    simp only [plains, Bool.and_eq_true] at p
    simp only [pys, PyData.canLayAll0, Bool.and_eq_true] at q
    exact .cons (Rep.dp sm h p.1 q.1) (Reps.dp sm r p.2 q.2)
end
theorem soft_dp {v : V} {d : D} (sm : Same H0 H) (h : softP c v d H0 H) (l : lays d = true) : Dp c.K H v d.py := by
  unfold lays at l
  simp only [Bool.and_eq_true] at l
  rcases h with h | ⟨p, vs, ds, rfl, rfl, h1, _, _, _, r⟩
  · exact h.dp sm l.1 l.2
  · exact .lst (SqL.of h1) (r.dp sm (by simpa [D.plain] using l.1) (by simpa [D.py, PyData.canLay0] using l.2))
theorem pys_map : ∀ l : List D, pys l = l.map D.py
  | [] => rfl
  | d :: l => by rw [pys, pys_map l, List.map_cons]
theorem plains_all : ∀ l : List D, plains l = l.all D.plain
  | [] => rfl
  | d :: l => by rw [plains, plains_all l, List.all_cons]
theorem lays_all : ∀ {l : List D}, l.all lays = true → plains l = true ∧ PyData.canLayAll0 (pys l) = true
  | [], _ => ⟨rfl, rfl⟩
  | d :: l, h => by
    simp only [List.all_cons, Bool.and_eq_true] at h
    obtain ⟨h1, h2⟩ := lays_all h.2
    have h3 := h.1
    unfold lays at h3
    simp only [Bool.and_eq_true] at h3
    simp only [plains, pys, PyData.canLayAll0, Bool.and_eq_true]
    exact ⟨⟨h3.1, h1⟩, h3.2, h2⟩
end
section
variable {X : Cx} {c : Cfg}
theorem opImp {f : Value → Value → Sem Value} {r r' : R2} (h : OpR X f r) (k : ∀ x y H Q, r' x y H Q → r x y H Q) : OpR X f r' := fun pins s σ H x y v u Q I rx ry q => h pins s σ H x y v u Q I rx ry (k _ _ _ _ q)
theorem cmp_eq (hK : X.K = c.K) (hu : X.A.units + 65 < cLine) : OpR X (compareOp .Eq) (rC2 c deq) := opImp (op_eqD (X := X) (by omega)) fun x y H Q ⟨H0, dx, dy, b, sm, hx, hy, e, q⟩ => by
  simp only [deq] at e
  split at e
  · rename_i h
    cases e
    simp only [Bool.and_eq_true] at h
    exact ⟨_, _, by rw [hK]; exact soft_dp sm hx h.1.1.1, by rw [hK]; exact soft_dp sm hy h.1.1.2, h.1.2, h.2, q⟩
  · cases e
theorem cmp_ne (hK : X.K = c.K) (hu : X.A.units + 65 < cLine) : OpR X (compareOp .NotEq) (rC2 c fun a b => (deq a b).map (!·)) := opImp (op_neD (X := X) (by omega)) fun x y H Q ⟨H0, dx, dy, b, sm, hx, hy, e, q⟩ => by
  simp only [deq] at e
  split at e
  · rename_i h
    cases e
    simp only [Bool.and_eq_true] at h
    exact ⟨_, _, by rw [hK]; exact soft_dp sm hx h.1.1.1, by rw [hK]; exact soft_dp sm hy h.1.1.2, h.1.2, h.2, q⟩
  · cases e
theorem cmp_lt : OpR X (compareOp .Lt) (rC2 c dLt) := opImp op_lt fun x y H Q ⟨H0, dx, dy, b, sm, hx, hy, e, q⟩ => by
  simp only [dLt] at e
  split at e
  · cases e
    exact ⟨_, _, soft_int hx, soft_int hy, q⟩
  · cases e
theorem cmp_gt : OpR X (compareOp .Gt) (rC2 c fun a b => dLt b a) := opImp op_gt fun x y H Q ⟨H0, dx, dy, b, sm, hx, hy, e, q⟩ => by
  simp only [dLt] at e
  split at e
  · cases e
    exact ⟨_, _, soft_int hx, soft_int hy, q⟩
  · cases e
theorem cmp_le : OpR X (compareOp .LtE) (rC2 c dLe) := opImp op_le fun x y H Q ⟨H0, dx, dy, b, sm, hx, hy, e, q⟩ => by
  simp only [dLe] at e
  split at e
  · cases e
    exact ⟨_, _, soft_int hx, soft_int hy, q⟩
  · cases e
theorem cmp_ge : OpR X (compareOp .GtE) (rC2 c fun a b => dLe b a) := opImp op_ge fun x y H Q ⟨H0, dx, dy, b, sm, hx, hy, e, q⟩ => by
  simp only [dLe] at e
  split at e
  · cases e
    exact ⟨_, _, soft_int hx, soft_int hy, q⟩
  · cases e
theorem any_pys (a : PyData) (l : List D) : (pys l).any (fun z => PyData.eqv z a) = l.any fun z => PyData.eqv z.py a := by
  rw [pys_map, List.any_map]
  rfl
theorem cmp_in (hK : X.K = c.K) (hu : X.A.units + 65 < cLine) : OpR X (compareOp .In) (rC2 c dIn) := by
  intro pins s σ H x y v u Q I rx ry ⟨H0, dx, dy, b, sm, hx, hy, e, q⟩
  unfold dIn at e
  split at e
  · rename_i h
    simp only [Bool.and_eq_true] at h
    have d1 := soft_dp sm hx h.1
    rw [← hK] at d1
    obtain ⟨as, r1⟩ := Dp.reads I _ x v d1 rx
    have hl := h.1
    unfold lays at hl
    simp only [Bool.and_eq_true] at hl
    cases dy <;> simp only [items?, Option.bind_none, Option.bind_some, reduceCtorEq] at e
    · rename_i l
      split at e
      · rename_i ha
        cases e
        obtain ⟨h2, h3⟩ := lays_all ha
        have d2 := soft_dp sm hy (show lays (.tup l) = true by simp only [lays, D.plain, D.py, PyData.canLay0, h2, h3, Bool.and_self])
        rw [← hK] at d2
        obtain ⟨bs, r2⟩ := Dp.reads I _ y u d2 ry
        exact SeqAt.in_tuple_reads r2 r1 h3 hl.2 (room_in_shaped h.2 hu) ⟨.bl _, H, I, rfl, by rw [any_pys]; exact q⟩
      · cases e
    · rename_i l
      split at e
      · rename_i ha
        cases e
        obtain ⟨h2, h3⟩ := lays_all ha
        have d2 := soft_dp sm hy (show lays (.lst l) = true by simp only [lays, D.plain, D.py, PyData.canLay0, h2, h3, Bool.and_self])
        rw [← hK] at d2
        obtain ⟨bs, r2⟩ := Dp.reads I _ y u d2 ry
        exact SeqAt.in_list_reads r2 r1 h3 hl.2 (room_in_shaped h.2 hu) ⟨.bl _, H, I, rfl, by rw [any_pys]; exact q⟩
      · cases e
  · cases e
theorem cmp_notin (hK : X.K = c.K) (hu : X.A.units + 65 < cLine) : OpR X (compareOp .NotIn) (rC2 c fun a b => (dIn a b).map (!·)) := by
  intro pins s σ H x y v u Q I rx ry ⟨H0, dx, dy, b, sm, hx, hy, e, q⟩
  simp only [dIn] at e
  split at e
  · rename_i h
    simp only [Bool.and_eq_true] at h
    have d1 := soft_dp sm hx h.1
    rw [← hK] at d1
    obtain ⟨as, r1⟩ := Dp.reads I _ x v d1 rx
    have hl := h.1
    unfold lays at hl
    simp only [Bool.and_eq_true] at hl
    cases dy <;> simp only [items?, Option.bind_none, Option.bind_some, Option.map_none, reduceCtorEq] at e
    · rename_i l
      split at e
      · rename_i ha
        cases e
        obtain ⟨h2, h3⟩ := lays_all ha
        have d2 := soft_dp sm hy (show lays (.tup l) = true by simp only [lays, D.plain, D.py, PyData.canLay0, h2, h3, Bool.and_self])
        rw [← hK] at d2
        obtain ⟨bs, r2⟩ := Dp.reads I _ y u d2 ry
        exact SeqAt.notIn_tuple_reads r2 r1 h3 hl.2 (room_in_shaped h.2 hu) ⟨.bl _, H, I, rfl, by rw [any_pys]; exact q⟩
      · cases e
    · rename_i l
      split at e
      · rename_i ha
        cases e
        obtain ⟨h2, h3⟩ := lays_all ha
        have d2 := soft_dp sm hy (show lays (.lst l) = true by simp only [lays, D.plain, D.py, PyData.canLay0, h2, h3, Bool.and_self])
        rw [← hK] at d2
        obtain ⟨bs, r2⟩ := Dp.reads I _ y u d2 ry
        exact SeqAt.notIn_list_reads r2 r1 h3 hl.2 (room_in_shaped h.2 hu) ⟨.bl _, H, I, rfl, by rw [any_pys]; exact q⟩
      · cases e
  · cases e
theorem soft_isNon {v : V} {d : D} {H0 H : Hp} (h : softP c v d H0 H) : decide (v = .non) = decide (d.isNon = true) := by
  rcases h with h | ⟨p, vs, ds, rfl, rfl, _⟩
  · cases h <;> simp [D.isNon]
  · simp [D.isNon]
theorem cmp_is : OpR X (compareOp .Is) (rC2 c dis) := by
  intro pins s σ H x y v u Q I rx ry ⟨H0, dx, dy, b, sm, hx, hy, e, q⟩
  unfold dis at e
  split at e
  · cases e
    have e2 := soft_non hy; subst e2
    exact op_isN pins s σ H _ _ v u Q I rx ry ⟨rfl, by rw [soft_isNon hx]; exact q⟩
  · cases e
    have e1 := soft_bl hx; subst e1
    have e2 := soft_bl hy; subst e2
    exact op_isBl pins s σ H _ _ v u Q I rx ry ⟨_, _, rfl, rfl, q⟩
  · cases e
theorem cmp_isnot : OpR X (compareOp .IsNot) (rC2 c fun a b => (dis a b).map (!·)) := by
  intro pins s σ H x y v u Q I rx ry ⟨H0, dx, dy, b, sm, hx, hy, e, q⟩
  simp only [dis] at e
  split at e
  · cases e
    have e2 := soft_non hy; subst e2
    exact op_notN pins s σ H _ _ v u Q I rx ry ⟨rfl, by rw [soft_isNon hx]; exact q⟩
  · cases e
    have e1 := soft_bl hx; subst e1
    have e2 := soft_bl hy; subst e2
    exact op_notBl pins s σ H _ _ v u Q I rx ry ⟨_, _, rfl, rfl, q⟩
  · cases e
theorem cmp_ok (hK : X.K = c.K) (hu : X.A.units + 65 < cLine) : ∀ o : Cmp, OpR X (compareOp (cmpOf o)) (rC2 c (dcmp o))
  | .eq => cmp_eq hK hu
  | .ne => cmp_ne hK hu
  | .lt => cmp_lt
  | .le => cmp_le
  | .gt => cmp_gt
  | .ge => cmp_ge
  | .isin => cmp_in hK hu
  | .notin => cmp_notin hK hu
  | .is => cmp_is
  | .isnot => cmp_isnot
/-- truth -/
theorem soft_truth {v : V} {d : D} {H0 H : Hp} {t : Bool} (sm : Same H0 H) (h : softP c v d H0 H) (e : dtruth d = some t) : TruV c.K v H t := by
  rcases h with h | ⟨p, vs, ds, rfl, rfl, h1, _, _, _, r⟩
  · cases h with
    | non => cases e; rfl
    | bl b => cases e; rfl
    | int i => cases e; rfl
    | str s =>
      simp only [dtruth] at e
      split at e
      · cases e
        rename_i z
        exact ⟨size_le z, rfl⟩
      · cases e
    | tup h z r =>
      cases e
      refine .inr (.inl ⟨_, same_sqT sm h, ?_⟩)
      cases r <;> rfl
    | lst h z r =>
      cases e
      refine .inl ⟨_, SqL.of (sm _ _ h), ?_⟩
      cases r <;> rfl
    | dic h r =>
      cases e
      refine .inr (.inr ⟨_, sm _ _ h, ?_⟩)
      cases r <;> rfl
    | obj _ h u f r => cases e
    | exc _ _ _ _ _ _ => cases e
    | exc0 _ _ _ _ => cases e
    | pen => cases e
    | lam _ _ _ _ => cases e
  · cases e
    refine .inl ⟨_, SqL.of h1, ?_⟩
    cases r <;> rfl
end
end VC
set_option Elab.async false
set_option linter.all false
set_option maxRecDepth 100000
set_option maxHeartbeats 1000000
/-! VCe: what is called by its name, by values. -/
namespace VC
open PySem PySem.Spec PyProof.Rows L2
def rVn (c : Cfg) (f : List D → Option D) : List V → Hp → VK → Prop := fun vs H Q => ∃ H0 ds, Same H0 H ∧ Softs c H0 H vs ds ∧ Val c H0 H (f ds) Q
section
variable {c : Cfg} {H0 H : Hp}
theorem Softs.one {vs : List V} {d : D} (h : Softs c H0 H vs [d]) : ∃ v, vs = [v] ∧ softP c v d H0 H := by
  cases h with
  | cons a r =>
    cases r
    exact ⟨_, rfl, a⟩
theorem Softs.two {vs : List V} {d e : D} (h : Softs c H0 H vs [d, e]) : ∃ v u, vs = [v, u] ∧ softP c v d H0 H ∧ softP c u e H0 H := by
  cases h with
  | cons a r =>
    obtain ⟨u, rfl, b⟩ := r.one
    exact ⟨_, _, rfl, a, b⟩
theorem ints_of : ∀ {vs : List V} {ds : List D} {ns : List Int}, Reps c H0 vs ds → ints? ds = some ns → vs = ns.map V.int
  | _, _, _, .nil, e => by cases e; rfl
  | _, _, _, .cons h r, e => by
    cases h <;> simp only [ints?, reduceCtorEq] at e
    obtain ⟨ms, e1, rfl⟩ := Option.map_eq_some_iff.mp e
    rw [ints_of r e1, List.map_cons]
theorem bools_of : ∀ {vs : List V} {ds : List D} {bs : List Bool}, Reps c H0 vs ds → bools? ds = some bs → vs = bs.map V.bl
  | _, _, _, .nil, e => by cases e; rfl
  | _, _, _, .cons h r, e => by
    cases h <;> simp only [bools?, reduceCtorEq] at e
    obtain ⟨ms, e1, rfl⟩ := Option.map_eq_some_iff.mp e
    rw [bools_of r e1, List.map_cons]
theorem Reps.ints : ∀ ns : List Int, Reps c H0 (ns.map V.int) (ns.map D.int)
  | [] => .nil
  | n :: ns => .cons (.int n) (Reps.ints ns)
end
/-- the greatest is told by what it is -/
theorem foldMax (l : List Int) : ∀ a : Int, (l.foldl (fun m x => if x > m then x else m) a = a ∨ l.foldl (fun m x => if x > m then x else m) a ∈ l) ∧ a ≤ l.foldl (fun m x => if x > m then x else m) a ∧ ∀ y ∈ l, y ≤ l.foldl (fun m x => if x > m then x else m) a := by
  induction l with
  | nil => intro a; exact ⟨.inl rfl, Int.le_refl _, fun y h => by cases h⟩
  | cons b l ih =>
    intro a
    obtain ⟨h1, h2, h3⟩ := ih (if b > a then b else a)
    rw [List.foldl_cons]
    refine ⟨?_, ?_, fun y hy => ?_⟩
    · rcases h1 with h1 | h1
      · split at h1
        · rename_i q; rw [if_pos q]; exact .inr (by rw [h1]; exact List.mem_cons_self)
        · rename_i q; rw [if_neg q]; exact .inl h1
      · exact .inr (List.mem_cons_of_mem _ h1)
    · split at h2 <;> rename_i q <;> first | (rw [if_pos q]; omega) | (rw [if_neg q]; exact h2)
    · rcases List.mem_cons.mp hy with rfl | hy
      · split at h2 <;> rename_i q <;> first | (rw [if_pos q]; exact h2) | (rw [if_neg q]; omega)
      · exact h3 y hy
theorem foldMin (l : List Int) : ∀ a : Int, (l.foldl (fun m x => if x < m then x else m) a = a ∨ l.foldl (fun m x => if x < m then x else m) a ∈ l) ∧ l.foldl (fun m x => if x < m then x else m) a ≤ a ∧ ∀ y ∈ l, l.foldl (fun m x => if x < m then x else m) a ≤ y := by
  induction l with
  | nil => intro a; exact ⟨.inl rfl, Int.le_refl _, fun y h => by cases h⟩
  | cons b l ih =>
    intro a
    obtain ⟨h1, h2, h3⟩ := ih (if b < a then b else a)
    rw [List.foldl_cons]
    refine ⟨?_, ?_, fun y hy => ?_⟩
    · rcases h1 with h1 | h1
      · split at h1
        · rename_i q; rw [if_pos q]; exact .inr (by rw [h1]; exact List.mem_cons_self)
        · rename_i q; rw [if_neg q]; exact .inl h1
      · exact .inr (List.mem_cons_of_mem _ h1)
    · split at h2 <;> rename_i q <;> first | (rw [if_pos q]; omega) | (rw [if_neg q]; exact h2)
    · rcases List.mem_cons.mp hy with rfl | hy
      · split at h2 <;> rename_i q <;> first | (rw [if_pos q]; exact h2) | (rw [if_neg q]; omega)
      · exact h3 y hy
theorem maxI_is {ns : List Int} {m k : Int} (e : maxI ns = some k) (h1 : m ∈ ns) (h2 : ∀ y ∈ ns, y ≤ m) : m = k := by
  cases ns with
  | nil => cases h1
  | cons a l =>
    obtain ⟨q1, q2, q3⟩ := foldMax l a
    have e' := Option.some.inj e
    rw [e'] at q1 q2 q3
    have hk : k ∈ a :: l := by
      rcases q1 with q1 | q1
      · rw [q1]; exact List.mem_cons_self
      · exact List.mem_cons_of_mem _ q1
    have := h2 k hk
    rcases List.mem_cons.mp h1 with rfl | h1
    · omega
    · have := q3 m h1
      omega
theorem minI_is {ns : List Int} {m k : Int} (e : minI ns = some k) (h1 : m ∈ ns) (h2 : ∀ y ∈ ns, m ≤ y) : m = k := by
  cases ns with
  | nil => cases h1
  | cons a l =>
    obtain ⟨q1, q2, q3⟩ := foldMin l a
    have e' := Option.some.inj e
    rw [e'] at q1 q2 q3
    have hk : k ∈ a :: l := by
      rcases q1 with q1 | q1
      · rw [q1]; exact List.mem_cons_self
      · exact List.mem_cons_of_mem _ q1
    have := h2 k hk
    rcases List.mem_cons.mp h1 with rfl | h1
    · omega
    · have := q3 m h1
      omega
theorem insI_perm (a : Int) : ∀ l : List Int, (insI a l).Perm (a :: l)
  | [] => .refl _
  | b :: l => by
    unfold insI
    split
    · exact .refl _
    · exact ((insI_perm a l).cons b).trans (.swap a b l)
theorem sortI_perm : ∀ l : List Int, (sortI l).Perm l
  | [] => .refl _
  | a :: l => (insI_perm a _).trans ((sortI_perm l).cons a)
theorem insI_up (a : Int) : ∀ l : List Int, l.Pairwise (· ≤ ·) → (insI a l).Pairwise (· ≤ ·)
  | [], _ => List.pairwise_singleton _ _
  | b :: l, h => by
    unfold insI
    obtain ⟨h1, h2⟩ := List.pairwise_cons.mp h
    split
    · rename_i q
      refine List.pairwise_cons.mpr ⟨fun y hy => ?_, h⟩
      rcases List.mem_cons.mp hy with rfl | hy
      · exact q
      · exact Int.le_trans q (h1 y hy)
    · rename_i q
      refine List.pairwise_cons.mpr ⟨fun y hy => ?_, insI_up a l h2⟩
      rcases List.mem_cons.mp ((insI_perm a l).mem_iff.mp hy) with rfl | hy
      · omega
      · exact h1 y hy
theorem sortI_up : ∀ l : List Int, (sortI l).Pairwise (· ≤ ·)
  | [] => .nil
  | a :: l => insI_up a _ (sortI_up l)
theorem up_one : ∀ {l m : List Int}, l.Perm m → l.Pairwise (· ≤ ·) → m.Pairwise (· ≤ ·) → l = m := fun p a b => p.eq_of_pairwise (fun _ _ _ _ x y => Int.le_antisymm x y) a b
section
variable {X : Cx} {c : Cfg}
theorem cb_len (hK : X.K = c.K) : CallR X (.builtin "len") (rVn c dLen) := by
  intro pins s σ H vs us Q I r ⟨H0, ds, sm, hs, d, e, q⟩
  unfold dLen at e
  split at e
  · cases e
    obtain ⟨v, rfl, h⟩ := hs.one
    obtain ⟨a, ws, rfl, ha, z, rr⟩ := soft_tup sm h
    exact call_len pins s σ H _ us Q I r ⟨.ref a, ws.length, rfl, .inr ⟨ws, by rw [hK]; exact ha, rfl⟩, by rw [rr.length]; exact q _ _ _ (.refl sm) (.int _)⟩
  · cases e
    obtain ⟨v, rfl, h⟩ := hs.one
    obtain ⟨a, ws, rfl, ha, z, rr⟩ := soft_lst sm h
    exact call_len pins s σ H _ us Q I r ⟨.ref a, ws.length, rfl, .inl ⟨ws, SqL.of ha, rfl⟩, by rw [rr.length]; exact q _ _ _ (.refl sm) (.int _)⟩
  · split at e
    · rename_i z
      cases e
      obtain ⟨v, rfl, h⟩ := hs.one
      have e1 := soft_str h; subst e1
      exact call_len pins s σ H _ us Q I r ⟨.str _, _, rfl, ⟨size_le z, rfl⟩, q _ _ _ (.refl sm) (.int _)⟩
    · cases e
  · cases e
theorem cb_all (hc : X.calm = true) : CallR X (.builtin "all") (rVn c dAll) := by
  intro pins s σ H vs us Q I r ⟨H0, ds, sm, hs, d, e, q⟩
  unfold dAll at e
  split at e
  · obtain ⟨bs, e1, rfl⟩ := Option.map_eq_some_iff.mp e
    obtain ⟨v, rfl, h⟩ := hs.one
    obtain ⟨a, ws, rfl, ha, z, rr⟩ := soft_lst sm h
    rw [bools_of rr e1] at ha
    exact cr_all hc pins s σ H _ us Q I r ⟨a, bs, rfl, SqL.of ha, q _ _ _ (.refl sm) (.bl _)⟩
  · cases e
theorem cb_any (hc : X.calm = true) : CallR X (.builtin "any") (rVn c dAny) := by
  intro pins s σ H vs us Q I r ⟨H0, ds, sm, hs, d, e, q⟩
  unfold dAny at e
  split at e
  · obtain ⟨bs, e1, rfl⟩ := Option.map_eq_some_iff.mp e
    obtain ⟨v, rfl, h⟩ := hs.one
    obtain ⟨a, ws, rfl, ha, z, rr⟩ := soft_lst sm h
    rw [bools_of rr e1] at ha
    exact cr_any hc pins s σ H _ us Q I r ⟨a, bs, rfl, SqL.of ha, q _ _ _ (.refl sm) (.bl _)⟩
  · cases e
theorem cb_sum (hc : X.calm = true) : CallR X (.builtin "sum") (rVn c dSum) := by
  intro pins s σ H vs us Q I r ⟨H0, ds, sm, hs, d, e, q⟩
  unfold dSum at e
  split at e
  · obtain ⟨ns, e1, rfl⟩ := Option.map_eq_some_iff.mp e
    obtain ⟨v, rfl, h⟩ := hs.one
    obtain ⟨a, ws, rfl, ha, z, rr⟩ := soft_lst sm h
    rw [ints_of rr e1] at ha
    exact cr_sum hc pins s σ H _ us Q I r ⟨a, ns, rfl, SqL.of ha, q _ _ _ (.refl sm) (.int _)⟩
  · cases e
section
variable {prog : Program} {w : World} {A : Around} {E : Value → Shared → Prop} {s : Shared} {l : Addr} {xs : Array (Int × Tok)}
theorem max_tupI {Q : Value → Shared → Prop} (hh : A.handled = none) (hl : s.heap.IsTuple l (intItems xs)) (hne : 0 < xs.size)
    (h : ∀ v h' tk, (intItems xs)[argBest (fun i j => decide (numAt xs i > numAt xs j)) (xs.size - 1)]? = some v → (∀ b o, s.heap.get? b = some o → h'.get? b = some o) → Q v { s with heap := h', toks := tk }) :
    wpAny (model prog w) A (call (.builtin "max") [.ref l]) Q E s := by
  have hlt : l < s.heap.objs.size := by obtain ⟨_, e, _⟩ := hl; exact Heap.lt_size e
  refine call_max_walk (wpAny_pyIter_tuple hl ?_)
  refine ⟨_, _, _, _, _, _, _, rfl, Walks.tuple (A := A.in1) hh _ l (Nat.ne_of_lt hlt) (intItems xs), ⟨⟨_, Heap.get?_push_size _ rfl, rfl, rfl⟩, hl.push _⟩, fun b hb => ?_, by simpa [intItems] using hne, CmpOf.ints_gt (numAt xs) (fun _ _ => intItems_at), fun v h' tk hP hk => ?_⟩
  · show b < (s.heap.push _).objs.size
    rw [Heap.size_push]
    rcases List.mem_cons.mp hb with rfl | hb
    · exact Nat.lt_succ_self _
    · rcases List.mem_cons.mp hb with rfl | hb
      · exact Nat.lt_succ_of_lt hlt
      · cases hb
  · refine h v h' tk (by simpa [intItems] using hP) fun b o e => hk b o (fun hm => ?_) (Heap.get?_push_of_some _ e)
    rcases List.mem_cons.mp hm with e1 | hm
    · exact absurd (e1 ▸ Heap.lt_size e) (Nat.lt_irrefl _)
    · cases hm
theorem min_tupI {Q : Value → Shared → Prop} (hh : A.handled = none) (hl : s.heap.IsTuple l (intItems xs)) (hne : 0 < xs.size)
    (h : ∀ v h' tk, (intItems xs)[argBest (fun i j => decide (numAt xs i < numAt xs j)) (xs.size - 1)]? = some v → (∀ b o, s.heap.get? b = some o → h'.get? b = some o) → Q v { s with heap := h', toks := tk }) :
    wpAny (model prog w) A (call (.builtin "min") [.ref l]) Q E s := by
  have hlt : l < s.heap.objs.size := by obtain ⟨_, e, _⟩ := hl; exact Heap.lt_size e
  refine call_min_walk (wpAny_pyIter_tuple hl ?_)
  refine ⟨_, _, _, _, _, _, _, rfl, Walks.tuple (A := A.in1) hh _ l (Nat.ne_of_lt hlt) (intItems xs), ⟨⟨_, Heap.get?_push_size _ rfl, rfl, rfl⟩, hl.push _⟩, fun b hb => ?_, by simpa [intItems] using hne, CmpOf.ints_lt (numAt xs) (fun _ _ => intItems_at), fun v h' tk hP hk => ?_⟩
  · show b < (s.heap.push _).objs.size
    rw [Heap.size_push]
    rcases List.mem_cons.mp hb with rfl | hb
    · exact Nat.lt_succ_self _
    · rcases List.mem_cons.mp hb with rfl | hb
      · exact Nat.lt_succ_of_lt hlt
      · cases hb
  · refine h v h' tk (by simpa [intItems] using hP) fun b o e => hk b o (fun hm => ?_) (Heap.get?_push_of_some _ e)
    rcases List.mem_cons.mp hm with e1 | hm
    · exact absurd (e1 ▸ Heap.lt_size e) (Nat.lt_irrefl _)
    · cases hm
theorem max_tupR {its : List Value} {ns : List Int} {Q : Value → Shared → Prop} (hh : A.handled = none) (hl : s.heap.IsTuple l its.toArray) (hi : IntsAre its ns) (hne : 0 < ns.length)
    (h : ∀ h' tk M t', (∀ b o, s.heap.get? b = some o → h'.get? b = some o) → M ∈ ns → (∀ a, a ∈ ns → a ≤ M) → Q (.int M t') { s with heap := h', toks := tk }) : wpAny (model prog w) A (call (.builtin "max") [.ref l]) Q E s := by
  obtain ⟨xs, e⟩ := hi.allInts.items
  have hn : numsOf (intItems xs).toList = ns := (congrArg (fun z : Array Value => numsOf z.toList) e).symm.trans hi.numsOf
  rw [nums_intItems] at hn
  subst hn
  rw [e] at hl
  refine max_tupI hh hl (by simpa using hne) fun v h' tk hv hk => ?_
  obtain ⟨t, rfl⟩ := intItems_at hv
  obtain ⟨h1, h2⟩ := argBest_gt (numAt xs) (xs.size - 1)
  have hsz : 0 < xs.size := by simpa using hne
  refine h h' tk _ t hk ?_ fun a ha => ?_
  · rw [numAt_eq]
    exact PySem.getD_mem (by rw [List.length_map, Array.length_toList]; omega)
  · obtain ⟨j, hj, rfl⟩ := mem_getD ha
    rw [List.length_map, Array.length_toList] at hj
    rw [← numAt_eq]
    exact h2 j (by omega)
theorem min_tupR {its : List Value} {ns : List Int} {Q : Value → Shared → Prop} (hh : A.handled = none) (hl : s.heap.IsTuple l its.toArray) (hi : IntsAre its ns) (hne : 0 < ns.length)
    (h : ∀ h' tk M t', (∀ b o, s.heap.get? b = some o → h'.get? b = some o) → M ∈ ns → (∀ a, a ∈ ns → M ≤ a) → Q (.int M t') { s with heap := h', toks := tk }) : wpAny (model prog w) A (call (.builtin "min") [.ref l]) Q E s := by
  obtain ⟨xs, e⟩ := hi.allInts.items
  have hn : numsOf (intItems xs).toList = ns := (congrArg (fun z : Array Value => numsOf z.toList) e).symm.trans hi.numsOf
  rw [nums_intItems] at hn
  subst hn
  rw [e] at hl
  refine min_tupI hh hl (by simpa using hne) fun v h' tk hv hk => ?_
  obtain ⟨t, rfl⟩ := intItems_at hv
  obtain ⟨h1, h2⟩ := argBest_lt (numAt xs) (xs.size - 1)
  have hsz : 0 < xs.size := by simpa using hne
  refine h h' tk _ t hk ?_ fun a ha => ?_
  · rw [numAt_eq]
    exact PySem.getD_mem (by rw [List.length_map, Array.length_toList]; omega)
  · obtain ⟨j, hj, rfl⟩ := mem_getD ha
    rw [List.length_map, Array.length_toList] at hj
    rw [← numAt_eq]
    exact h2 j (by omega)
end
theorem len_pos {ns : List Int} {m : Int} (h : maxI ns = some m) : 0 < ns.length := by
  cases ns with
  | nil => cases h
  | cons a l => exact Nat.succ_pos _
theorem len_pos' {ns : List Int} {m : Int} (h : minI ns = some m) : 0 < ns.length := by
  cases ns with
  | nil => cases h
  | cons a l => exact Nat.succ_pos _
theorem cb_max (hK : X.K = c.K) (hc : X.calm = true) : CallR X (.builtin "max") (rVn c dMax) := by
  intro pins s σ H vs us Q I r ⟨H0, ds, sm, hs, d, e, q⟩
  unfold dMax at e
  split at e
  · cases e
    obtain ⟨v, u, rfl, h1, h2⟩ := hs.two
    have e1 := soft_int h1; subst e1
    have e2 := soft_int h2; subst e2
    exact call_max2 hc pins s σ H _ us Q I r ⟨_, _, rfl, q _ _ _ (.refl sm) (.int _)⟩
  · obtain ⟨ns, e1, e2⟩ := Option.bind_eq_some_iff.mp e
    obtain ⟨m, e3, rfl⟩ := Option.map_eq_some_iff.mp e2
    obtain ⟨v, rfl, h⟩ := hs.one
    obtain ⟨a, ws, rfl, ha, z, rr⟩ := soft_lst sm h
    rw [ints_of rr e1] at ha
    exact cr_max hc pins s σ H _ us Q I r ⟨a, ns, rfl, SqL.of ha, len_pos e3, fun m' h1 h2 => by rw [maxI_is e3 h1 h2]; exact q _ _ _ (.refl sm) (.int _)⟩
  · obtain ⟨ns, e1, e2⟩ := Option.bind_eq_some_iff.mp e
    obtain ⟨m, e3, rfl⟩ := Option.map_eq_some_iff.mp e2
    obtain ⟨v, rfl, h⟩ := hs.one
    obtain ⟨a, ws, rfl, ha, z, rr⟩ := soft_tup sm h
    rw [ints_of rr e1, ← hK] at ha
    obtain ⟨its, rv, hl, _⟩ := I.tuple ha
    rw [Vals.ref1 r]
    exact max_tupR (I.ok.hd hc) hl rv.ints (len_pos e3) fun h' tk m' t' hk h1 h2 => ⟨.int _, H, I.kept hk, ⟨_, rfl⟩, by rw [maxI_is e3 h1 h2]; exact q _ _ _ (.refl sm) (.int _)⟩
  · cases e
theorem cb_min (hK : X.K = c.K) (hc : X.calm = true) : CallR X (.builtin "min") (rVn c dMin) := by
  intro pins s σ H vs us Q I r ⟨H0, ds, sm, hs, d, e, q⟩
  unfold dMin at e
  split at e
  · cases e
    obtain ⟨v, u, rfl, h1, h2⟩ := hs.two
    have e1 := soft_int h1; subst e1
    have e2 := soft_int h2; subst e2
    exact call_min2 hc pins s σ H _ us Q I r ⟨_, _, rfl, q _ _ _ (.refl sm) (.int _)⟩
  · obtain ⟨ns, e1, e2⟩ := Option.bind_eq_some_iff.mp e
    obtain ⟨m, e3, rfl⟩ := Option.map_eq_some_iff.mp e2
    obtain ⟨v, rfl, h⟩ := hs.one
    obtain ⟨a, ws, rfl, ha, z, rr⟩ := soft_lst sm h
    rw [ints_of rr e1] at ha
    exact cr_min hc pins s σ H _ us Q I r ⟨a, ns, rfl, SqL.of ha, len_pos' e3, fun m' h1 h2 => by rw [minI_is e3 h1 h2]; exact q _ _ _ (.refl sm) (.int _)⟩
  · obtain ⟨ns, e1, e2⟩ := Option.bind_eq_some_iff.mp e
    obtain ⟨m, e3, rfl⟩ := Option.map_eq_some_iff.mp e2
    obtain ⟨v, rfl, h⟩ := hs.one
    obtain ⟨a, ws, rfl, ha, z, rr⟩ := soft_tup sm h
    rw [ints_of rr e1, ← hK] at ha
    obtain ⟨its, rv, hl, _⟩ := I.tuple ha
    rw [Vals.ref1 r]
    exact min_tupR (I.ok.hd hc) hl rv.ints (len_pos' e3) fun h' tk m' t' hk h1 h2 => ⟨.int _, H, I.kept hk, ⟨_, rfl⟩, by rw [minI_is e3 h1 h2]; exact q _ _ _ (.refl sm) (.int _)⟩
  · cases e
theorem cb_abs : CallR X (.builtin "abs") (rVn c dAbs) := by
  intro pins s σ H vs us Q I r ⟨H0, ds, sm, hs, d, e, q⟩
  unfold dAbs at e
  split at e
  · cases e
    obtain ⟨v, rfl, h⟩ := hs.one
    have e1 := soft_int h; subst e1
    exact call_abs pins s σ H _ us Q I r ⟨_, rfl, q _ _ _ (.refl sm) (.int _)⟩
  · cases e
theorem cb_int : CallR X (.type "int") (rVn c dInt) := by
  intro pins s σ H vs us Q I r ⟨H0, ds, sm, hs, d, e, q⟩
  unfold dInt at e
  split at e
  · cases e
    obtain ⟨v, rfl, h⟩ := hs.one
    have e1 := soft_int h; subst e1
    exact call_int1 pins s σ H _ us Q I r (.inl ⟨_, rfl, q _ _ _ (.refl sm) (.int _)⟩)
  · cases e
    obtain ⟨v, rfl, h⟩ := hs.one
    have e1 := soft_bl h; subst e1
    exact call_int1 pins s σ H _ us Q I r (.inr ⟨_, rfl, q _ _ _ (.refl sm) (.int _)⟩)
  · cases e
theorem cb_gcd : CallR X (.builtin "math.gcd") (rVn c dGcd) := by
  intro pins s σ H vs us Q I r ⟨H0, ds, sm, hs, d, e, q⟩
  unfold dGcd at e
  split at e
  · cases e
    obtain ⟨v, u, rfl, h1, h2⟩ := hs.two
    have e1 := soft_int h1; subst e1
    have e2 := soft_int h2; subst e2
    exact cr_gcd pins s σ H _ us Q I r ⟨_, _, rfl, q _ _ _ (.refl sm) (.int _)⟩
  · cases e
theorem cb_tuple (hK : X.K = c.K) : CallR X (.type "tuple") (rVn c dTuple) := by
  intro pins s σ H vs us Q I r ⟨H0, ds, sm, hs, d, e, q⟩
  unfold dTuple at e
  split at e
  · cases e
    obtain ⟨v, rfl, h⟩ := hs.one
    obtain ⟨a, ws, rfl, ha, z, rr⟩ := soft_tup sm h
    rw [← hK] at ha
    refine call_tuple_of pins s σ H _ us Q I r ⟨a, ws, rfl, .inr ⟨ha, ?_⟩⟩
    rcases h with h | ⟨_, _, _, _, e9, _⟩
    · exact q _ _ _ (.refl sm) h
    · cases e9
  · cases e
    obtain ⟨v, rfl, h⟩ := hs.one
    obtain ⟨a, ws, rfl, ha, z, rr⟩ := soft_lst sm h
    exact call_tuple_of pins s σ H _ us Q I r ⟨a, ws, rfl, .inl ⟨SqL.of ha, fun l nl => rep_tup (sm.free nl) z rr sm nl q⟩⟩
  · cases e
theorem cb_list (hK : X.K = c.K) : CallR X (.type "list") (rVn c dList) := by
  intro pins s σ H vs us Q I r ⟨H0, ds, sm, hs, d, e, q⟩
  unfold dList at e
  split at e
  · cases e
    obtain ⟨v, rfl, h⟩ := hs.one
    obtain ⟨a, ws, rfl, ha, z, rr⟩ := soft_tup sm h
    rw [← hK] at ha
    exact call_list_of pins s σ H _ us Q I r ⟨a, ws, rfl, .inr ha, fun l nl => rep_lst (sm.free nl) z rr sm nl q⟩
  · cases e
    obtain ⟨v, rfl, h⟩ := hs.one
    obtain ⟨a, ws, rfl, ha, z, rr⟩ := soft_lst sm h
    exact call_list_of pins s σ H _ us Q I r ⟨a, ws, rfl, .inl (SqL.of ha), fun l nl => rep_lst (sm.free nl) z rr sm nl q⟩
  · cases e
theorem cb_sorted : CallR X (.builtin "sorted") (rVn c dSorted) := by
  intro pins s σ H vs us Q I r ⟨H0, ds, sm, hs, d, e, q⟩
  unfold dSorted at e
  split at e
  · obtain ⟨ns, e1, rfl⟩ := Option.map_eq_some_iff.mp e
    obtain ⟨v, rfl, h⟩ := hs.one
    obtain ⟨a, ws, rfl, ha, z, rr⟩ := soft_lst sm h
    rw [ints_of rr e1] at ha z
    refine cr_sortedI pins s σ H _ us Q I r ⟨a, ns, rfl, SqL.of ha, fun ns' p h1 h2 np => ?_⟩
    have e3 : ns' = sortI ns := up_one (h1.trans (sortI_perm ns).symm) h2 (sortI_up ns)
    subst e3
    exact rep_lst (sm.free np) (by rw [List.length_map] at z ⊢; rw [(sortI_perm ns).length_eq]; exact z) (Reps.ints _) sm np q
  · cases e
end
end VC
set_option Elab.async false
set_option linter.all false
set_option maxRecDepth 100000
set_option maxHeartbeats 1000000
/-! VCf: repr, isinstance. -/
namespace VC
open PySem PySem.Spec PyProof.Rows L2
section
variable {c : Cfg} {X : Cx} {pins : List (Addr × Obj)} {σ : L2.St} {H0 H : Hp} {s : Shared}
def keyPy : Key → PyData
  | .inl i => .int i
  | .inr s => .str s
theorem key_reads {h : Heap} {P : Program} {w : World} (k : Key) (v : Value) (e : (mixKind P w).is k v = true) : Reads h v (keyPy k) [] := by
  rcases keyIs_shape e with ⟨i, t, rfl, rfl⟩ | ⟨x, t, rfl, rfl⟩
  · exact .int i t
  · exact .str x t
mutual
theorem Rep.reads (hK : X.K = c.K) (sm : Same H0 H) (I : Inv X pins σ H s) : ∀ {v : V} {d : D} {u : Value}, Rep c H0 v d → RelV v u → d.plain = true → ∃ as, Reads s.heap u d.py as ∧ (d.noL = true → sysModules ∉ as)
  | _, _, u, .non, r, _ => by
    cases r
    exact ⟨_, Reads.none, fun _ z => nomatch z⟩
  | _, _, u, .bl b, r, _ => by
    cases r
    exact ⟨_, Reads.bool b, fun _ z => nomatch z⟩
  | _, _, u, .int i, r, _ => by
    obtain ⟨t, rfl⟩ := r
    exact ⟨_, Reads.int i t, fun _ z => nomatch z⟩
  | _, _, u, .str x, r, _ => by
    obtain ⟨t, rfl⟩ := r
    exact ⟨_, Reads.str x t, fun _ z => nomatch z⟩
  | _, _, u, .tup h z rs, r, p => by
    cases r
    rw [← hK] at h
    obtain ⟨its, rv, ⟨o, ho, hc, n, hd⟩, _⟩ := I.tuple (same_sqT sm h)
    obtain ⟨as, hr, hn⟩ := Reps.readsAll hK sm I rs rv (by simpa [D.plain] using p)
    exact ⟨_, Reads.tuple ho hc hd hr, fun e => hn (by simpa [D.noL] using e)⟩
  | _, _, u, .lst h z rs, r, p => by
    cases r
    obtain ⟨its, rv, ⟨o, n, ho, hc, _, hd⟩, _⟩ := I.list (SqL.of (sm _ _ h))
    obtain ⟨as, hr, _⟩ := Reps.readsAll hK sm I rs rv (by simpa [D.plain] using p)
    exact ⟨_, Reads.list ho hc hd hr, fun e => by simp [D.noL] at e⟩
  | _, _, u, .dic (a := a) h rs, r, p => by
    cases r
    obtain ⟨z, hs, vs, kv, hd⟩ := dk_of I.hok (sm _ _ h)
    obtain ⟨bs, pr, hn⟩ := RepKs.readsKv hK sm I rs kv (by simpa [D.plain] using p)
    refine ⟨a :: bs, ?_, fun e => ?_⟩
    · simp only [D.py]
      exact PyProof.V.reads_dictOf (fun k v e => by cases k <;> exact key_reads _ v e) hd pr
    · rw [List.mem_cons, not_or]
      exact ⟨Ne.symm (beq_eq_false_iff_ne.mp hs), hn (by simpa [D.noL] using e)⟩
  | _, _, u, .obj _ h hu f r', _, p => by simp [D.plain] at p
  | _, _, u, .exc _ _ _ _ _ _, _, p => by simp [D.plain] at p
  | _, _, u, .exc0 _ _ _ _, _, p => by simp [D.plain] at p
  | _, _, u, .pen, _, p => by simp [D.plain] at p
  | _, _, u, .lam _ _ _ _, _, p => by simp [D.plain] at p
theorem Reps.readsAll (hK : X.K = c.K) (sm : Same H0 H) (I : Inv X pins σ H s) : ∀ {vs : List V} {ds : List D} {us : List Value}, Reps c H0 vs ds → Vals vs us → plains ds = true → ∃ as, ReadsAll s.heap us (pys ds) as ∧ (noLs ds = true → sysModules ∉ as)
  | _, _, us, .nil, r, _ => by
    cases r
    exact ⟨_, ReadsAll.nil, fun _ z => nomatch z⟩
  | _, _, us, .cons h rs, r, p => by
    cases r with
    | cons r1 r2 =>
      simp only [plains, Bool.and_eq_true] at p
      obtain ⟨as, q1, n1⟩ := Rep.reads hK sm I h r1 p.1
      obtain ⟨bs, q2, n2⟩ := Reps.readsAll hK sm I rs r2 p.2
      refine ⟨_, ReadsAll.cons q1 q2, fun e => ?_⟩
      simp only [noLs, Bool.and_eq_true] at e
      rw [List.mem_append, not_or]
      exact ⟨n1 e.1, n2 e.2⟩
theorem RepKs.readsKv (hK : X.K = c.K) (sm : Same H0 H) (I : Inv X pins σ H s) : ∀ {kvs : List (Key × V)} {kds : List (Key × D)} {us : List (Key × Value)}, RepKs c H0 kvs kds → KV kvs us → plainkvs kds = true → ∃ as, PyProof.V.PairsRead s.heap (fun k : Key => (match k with | .inl i => PyData.int i | .inr s => PyData.str s)) us (pykvs kds) as ∧ (noLkvs kds = true → sysModules ∉ as)
  | _, _, us, .nil, r, _ => by
    cases r
    exact ⟨_, PyProof.V.PairsRead.nil, fun _ z => nomatch z⟩
  | _, _, us, .cons h rs, r, p => by
    cases r with
    | @cons a b as bs r1 r2 =>
      obtain ⟨b1, b2⟩ := b
      obtain ⟨e1, r1⟩ := r1
      cases e1
      simp only [plainkvs, Bool.and_eq_true] at p
      obtain ⟨as, q1, n1⟩ := Rep.reads hK sm I h r1 p.1
      obtain ⟨bs, q2, n2⟩ := RepKs.readsKv hK sm I rs r2 p.2
      refine ⟨_, PyProof.V.PairsRead.cons q1 q2, fun e => ?_⟩
      simp only [noLkvs, Bool.and_eq_true] at e
      rw [List.mem_append, not_or]
      exact ⟨n1 e.1, n2 e.2⟩
end
end
/-! ### a list's items, shown one by one -/
inductive ItemsR (h : Heap) : List Value → List PyData → Prop
  | nil : ItemsR h [] []
  | cons {v : Value} {d : PyData} {as : List Addr} {vs : List Value} {ds : List PyData} : Reads h v d as → (d.hasDict = true → sysModules ∉ as) → ItemsR h vs ds → ItemsR h (v :: vs) (d :: ds)
theorem ItemsR.reads {h : Heap} : ∀ {vs : List Value} {ds : List PyData}, ItemsR h vs ds → ∃ as, ReadsAll h vs ds as
  | _, _, .nil => ⟨[], .nil⟩
  | _, _, .cons r _ rs => by
    obtain ⟨as, q⟩ := rs.reads
    exact ⟨_, .cons r q⟩
theorem ItemsR.shows {P : Program} {w : World} {h : Heap} : ∀ {vs : List Value} {ds : List PyData}, ItemsR h vs ds → PyData.showableAll ds = true → (∀ t ∈ PyData.shownAll ds, t.length ≤ sizeLine) → ∃ bs, ReadAtMost h (PyData.depthAll ds) bs ∧ ReprAllK P w bs h (PyData.depthAll ds) vs (PyData.shownAll ds)
  | _, _, .nil, _, _ => ⟨[], (fun _ z => nomatch z), by simp only [PyData.shownAll]; exact .nil⟩
  | _, _, .cons (d := d) (ds := ds) r n rs, hs, hz => by
    have hs' : d.showable = true ∧ PyData.showableAll ds = true := by simpa [PyData.showableAll] using hs
    obtain ⟨b1, hb1, k1⟩ := ReprK.of_reads (prog := P) (w := w) r hs'.1 n (hz _ (by simp only [PyData.shownAll]; exact List.mem_cons_self ..))
    obtain ⟨b2, hb2, k2⟩ := rs.shows (P := P) (w := w) hs'.2 fun t ht => hz t (by simp only [PyData.shownAll]; exact List.mem_cons_of_mem _ ht)
    have l1 : d.depth ≤ PyData.depthAll (d :: ds) := by simp only [PyData.depthAll]; exact Nat.le_max_left _ _
    have l2 : PyData.depthAll ds ≤ PyData.depthAll (d :: ds) := by simp only [PyData.depthAll]; exact Nat.le_max_right _ _
    refine ⟨b1 ++ b2, (hb1.mono l1).append (hb2.mono l2), ?_⟩
    have z := ReprAllK.cons ((k1.more fun b hb => List.mem_append_left b2 hb).level_le l1) (k2.more_le (fun b hb => List.mem_append_right b1 hb) l2)
    simpa only [PyData.shownAll] using z
theorem repr_items {P : Program} {w : World} {A : Around} {E : Value → Shared → Prop} {s : Shared} {Q : Value → Shared → Prop} {a : Addr} {o : Obj} {vs : List Value} {n : Nat} {ds : List PyData} (ho : s.heap.get? a = some o) (hc : o.cls = .type "list") (hd : o.data = .seq vs.toArray n) (R : ItemsR s.heap vs ds)
    (hs : PyData.showableAll ds = true) (hg : A.guards = some []) (hu : A.units + (PyData.depth (.list ds) + 1) < cLine) (hsz : (PyData.list ds).shown.length ≤ sizeLine)
    (hQ : ∀ h' u tk, (∀ b o, s.heap.get? b = some o → h'.get? b = some o) → Q (.str (PyData.list ds).shown u) { s with heap := h', toks := tk }) : wpAny (model P w) A (call (.builtin "repr") [.ref a]) Q E s := by
  have hz : (listText (PyData.shownAll ds)).length ≤ sizeLine := by simpa only [PyData.shown] using hsz
  obtain ⟨bs, hb, hk⟩ := R.shows (P := P) (w := w) hs fun t ht => Nat.le_trans (listText_mem_le ht) hz
  obtain ⟨as, ra⟩ := R.reads
  have r0 : Reads s.heap (.ref a) (.list ds) _ := .list ho hc hd ra
  have hna : a ∉ bs := not_mem_of_deeper r0 (by simp only [PyData.depth]; omega) hb
  refine call_repr_slot (T := "list") (by simp only [PyData.depth] at hu; omega) ⟨o, ho, hc⟩ F.slot_list_repr.toG ?_
  simp only [PyData.shown] at hQ
  simp only [PyData.depth] at hu
  cases vs with
  | nil =>
    cases R
    simp only [PyData.shownAll, listText_nil] at hQ
    exact call_list_repr_empty ⟨o, ho, hc⟩ ho hd ⟨_, _, rfl, hQ s.heap _ _ fun _ _ e => e⟩
  | cons x l =>
    exact call_list_reprK ho hc hd hna (by simpa using hk.length_eq) (fun i y e => hk.item i y (by simpa using e)) hg (fun b _ => Clear.nil b) (by show A.units + 1 + _ < cLine; omega) (fun _ _ e => e) (fun h' u tk kk => ⟨_, _, rfl, hQ h' u tk kk⟩) hz
section
variable {X : Cx} {c : Cfg}
theorem reps_items {pins : List (Addr × Obj)} {σ : L2.St} {H0 H : Hp} {s : Shared} (hK : X.K = c.K) (sm : Same H0 H) (I : Inv X pins σ H s) : ∀ {vs : List V} {ds : List D} {us : List Value}, Reps c H0 vs ds → Vals vs us → plains ds = true → (ds.all fun d => !d.py.hasDict || d.noL) = true → ItemsR s.heap us (pys ds)
  | _, _, us, .nil, r, _, _ => by
    cases r
    exact .nil
  | _, _, us, .cons h rs, r, p, q => by
    cases r with
    | cons r1 r2 =>
      simp only [plains, Bool.and_eq_true] at p
      simp only [List.all_cons, Bool.and_eq_true, Bool.or_eq_true, Bool.not_eq_true'] at q
      obtain ⟨as, q1, n1⟩ := Rep.reads hK sm I h r1 p.1
      refine .cons q1 (fun z => ?_) (reps_items hK sm I rs r2 p.2 (by simpa using q.2))
      rcases q.1 with q | q
      · rw [q] at z
        cases z
      · exact n1 q
theorem soft_reads {pins : List (Addr × Obj)} {σ : L2.St} {H0 H : Hp} {s : Shared} {v : V} {d : D} {u : Value} (hK : X.K = c.K) (sm : Same H0 H) (I : Inv X pins σ H s) (h : softP c v d H0 H) (r : RelV v u) (p : d.plain = true) : ∃ as, Reads s.heap u d.py as ∧ (d.noL = true → sysModules ∉ as) := by
  rcases h with h | ⟨l, vs, ds, rfl, rfl, h1, _, _, z, rr⟩
  · exact h.reads hK sm I r p
  · cases r
    obtain ⟨its, rv, ⟨o, n, ho, hc, _, hd⟩, _⟩ := I.list (SqL.of h1)
    obtain ⟨as, hr, _⟩ := Reps.readsAll hK sm I rr rv (by simpa [D.plain] using p)
    exact ⟨_, Reads.list ho hc hd hr, fun e => by simp [D.noL] at e⟩
theorem cb_repr (hK : X.K = c.K) (hg : X.A.guards = some []) (hu : X.A.units + 65 < cLine) : CallR X (.builtin "repr") (rVn c dRepr) := by
  intro pins s σ H vs us Q I r ⟨H0, ds, sm, hs, d, e, q⟩
  unfold dRepr at e
  split at e
  · rename_i x
    split at e
    · rename_i hz
      cases e
      simp only [Bool.and_eq_true, Bool.or_eq_true, Bool.not_eq_true', decide_eq_true_eq] at hz
      obtain ⟨⟨⟨⟨h1, h2⟩, h3⟩, h4⟩, h5⟩ := hz
      obtain ⟨v, rfl, h⟩ := hs.one
      obtain ⟨u, rfl, ru⟩ := vals1 r
      have hsz : x.py.shown.length ≤ sizeLine := Nat.le_trans h5 (by rw [sizeLine_eq]; decide)
      by_cases he : x.eachD = true
      · unfold D.eachD at he
        split at he
        · rename_i l
          obtain ⟨a, vs, rfl, ha, _, rr⟩ := soft_lst sm h
          obtain rfl : u = Value.ref a := ru
          obtain ⟨its, rv, ⟨o, n, ho, hc, _, hd⟩, _⟩ := I.list (SqL.of ha)
          exact repr_items ho hc hd (reps_items hK sm I rr rv (by simpa [D.plain] using h1) he) (by simpa [D.py, PyData.showable] using h3) hg (by
            have : (D.lst l).py.depth = PyData.depth (.list (pys l)) := rfl
            omega) hsz fun h' u tk hk => ⟨.str _, H, I.kept (t' := tk) hk, ⟨_, rfl⟩, q _ _ _ (.refl sm) (.str _)⟩
        · cases he
      replace h2 := h2.resolve_right he
      obtain ⟨as, hr, hn⟩ := soft_reads hK sm I h ru h1
      have hsys : x.py.hasDict = true → sysModules ∉ as := fun z => by
        rcases h2 with h2 | h2
        · rw [h2] at z
          cases z
        · exact hn h2
      have big : ∀ {a : Addr}, Reads s.heap (.ref a) x.py as → wpAny (model X.prog X.w) X.A (call (.builtin "repr") [.ref a]) (EP X pins σ Q) X.xe s := fun {a} hr =>
        repr_of_reads' hr h3 hsys hg (by omega) (fun _ _ e => e) (fun h' u tk hk => ⟨.str _, H, I.kept (t' := tk) hk, ⟨_, rfl⟩, q _ _ _ (.refl sm) (.str _)⟩) hsz
      cases u with
      | ref a => exact big hr
      | none =>
        generalize hx : x.py = y at hr q hsz
        cases hr
        exact PySem.P.repr_of_none ⟨.str _, H, I.tok _, ⟨_, rfl⟩, q _ _ _ (.refl sm) (.str _)⟩
      | bool b =>
        generalize hx : x.py = y at hr q hsz
        cases hr
        exact PySem.P.repr_of_bool ⟨.str _, H, I.tok _, ⟨_, rfl⟩, q _ _ _ (.refl sm) (.str _)⟩
      | int i t =>
        generalize hx : x.py = y at hr q hsz h3
        cases hr
        exact PySem.P.repr_of_int (by simpa [PyData.showable] using h3) ⟨.str _, H, I.tok _, ⟨_, rfl⟩, q _ _ _ (.refl sm) (.str _)⟩
      | str z t =>
        generalize hx : x.py = y at hr q hsz
        cases hr
        exact PySem.P.repr_of_str (h := ⟨.str _, H, I.tok _, ⟨_, rfl⟩, q _ _ _ (.refl sm) (.str _)⟩) (hsz := hsz)
      | _ => cases hr
    · cases e
  · cases e
end
end VC
set_option Elab.async false
set_option linter.all false
set_option maxRecDepth 100000
set_option maxHeartbeats 1000000
/-! VCfa: exceptions as values: their kinds, their fields; they are made, by place or by keywords. -/
namespace VC
open PySem PySem.Spec PyProof.Rows L2
/-- an exception's object in the heap: with its dict, or without one -/
def ExcH (H : Hp) (a C : Addr) : Prop := H a = some (exo a C none) ∨ ∃ dx fs, H a = some (exo a C (some dx)) ∧ H dx = some (exd dx fs)
def TyY (K : PySem.W.Frag) (H : Hp) (v : V) (t : Value) : Prop := TyX K H v t ∨ ∃ a C, v = .ref a ∧ t = .ref C ∧ L2.ExcC K C ∧ ExcH H a C
section
variable {X : Cx} {pins : List (Addr × Obj)} {σ : L2.St} {H : Hp} {s : Shared} {a C dx : Addr} {fs : List (Str × V)}
theorem exo_inst0 (I : Inv X pins σ H s) (e : H a = some (exo a C none)) : ∃ oe, PySem.W.InstAt s.heap a oe C none := by
  obtain ⟨t1, ho⟩ := exo_at I.hok e
  exact ⟨_, ho, rfl, rfl, trivial⟩
theorem exo_inst (I : Inv X pins σ H s) (e : H a = some (exo a C (some dx))) (ed : H dx = some (exd dx fs)) : ∃ (oe od : Obj) (mA : Str → Option Value), PySem.W.InstAt s.heap a oe C (some od) ∧ (∀ n, PySem.W.lookIn n od = some (mA n)) ∧ ∀ f, RelO (fs.lookup f) (mA f) := by
  obtain ⟨t1, ho⟩ := exo_at I.hok e
  obtain ⟨mA, hns, hr⟩ := exd_at I.hok ed
  obtain ⟨od, hd, hl⟩ := lookIn_ns hns
  exact ⟨_, od, mA, ⟨ho, rfl, rfl, hd⟩, hl, hr⟩
theorem kit_ofY {x : V} {u t : Value} (I : Inv X pins σ H s) (rx : RelV x u) (ty : TyY X.K H x t) : ∃ P : Heap → Prop, PySem.W.KitX X.K u t P ∧ P s.heap ∧ u ≠ .builtin "__main__.__loader__#opaque" := by
  rcases ty with ty | ⟨a, C, rfl, rfl, T, e⟩
  · exact kit_of I rx ty
  · obtain rfl : u = Value.ref a := rx
    have hcl : (PySem.W.clsIn X.K C).isSome = true := by
      obtain ⟨cd, hc, _⟩ := PySem.W.any_some T.hd
      rw [hc]
      rfl
    rcases e with e | ⟨dx, fs, e, ed⟩
    · obtain ⟨oe, J⟩ := exo_inst0 I e
      exact ⟨_, PySem.W.kitx_exc hcl T.hg T.hk T.hs T.ha T.hn T.ht T.hm, J, fun z => nomatch z⟩
    · obtain ⟨oe, od, mA, J, _⟩ := exo_inst I e ed
      exact ⟨_, PySem.W.kitx_exc hcl T.hg T.hk T.hs T.ha T.hn T.ht T.hm, J, fun z => nomatch z⟩
end
section
variable {X : Cx}
def rIsY (K : PySem.W.Frag) : List V → Hp → VK → Prop := fun xs H Q => ∃ (x c : V) (t u : Value) (b : Bool), xs = [x, c] ∧ ClsV c u ∧ TyY K H x t ∧ PySem.W.kitOne K t u = some b ∧ Q (.bl b) H
def rIsYT (K : PySem.W.Frag) : List V → Hp → VK → Prop := fun xs H Q => ∃ (x : V) (tp : Addr) (cs : List V) (t : Value) (us : List Value) (b : Bool), xs = [x, .ref tp] ∧ H tp = some (.tup cs) ∧ Paired ClsV cs us ∧ TyY K H x t ∧ PySem.W.kitAny K t us = some b ∧ Q (.bl b) H
theorem call_isY : CallR X (.builtin "isinstance") (rIsY X.K) := by
  intro pins s σ H xs us Q I r h
  obtain ⟨x, c, t, u, b, rfl, k, ty, e, q⟩ := h
  obtain ⟨u1, u2, rfl, r1, r2⟩ := vals2 r
  have e2 := k.eq r2
  subst e2
  obtain ⟨P, Z, p, hx⟩ := kit_ofY I r1 ty
  exact PySem.W.kia_one Z I.kIn p e hx fun tk => ⟨.bl b, H, I.tok tk, rfl, q⟩
theorem call_isYT : CallR X (.builtin "isinstance") (rIsYT X.K) := by
  intro pins s σ H xs us Q I r h
  obtain ⟨x, tp, cs, t, ws, b, rfl, hT, k, ty, e, q⟩ := h
  obtain ⟨u1, u2, rfl, r1, r2⟩ := vals2 r
  obtain rfl : u2 = Value.ref tp := r2
  obtain ⟨P, Z, p, hx⟩ := kit_ofY I r1 ty
  have hT' : ObjOk X.prog X.w H s.heap tp (.tup cs) := I.hok tp _ hT
  obtain ⟨_, its, rv, o, h1, h2, n, h3⟩ := hT'
  have e3 := ClsV.all k rv
  subst e3
  obtain ⟨oc, od, dt, sl⟩ := o
  simp only at h2 h3
  subst h2 h3
  exact PySem.W.kia_tup Z I.kIn p h1 e hx fun tk => ⟨.bl b, H, I.tok tk, rfl, q⟩
/-- a field of an exception, or of an instance -/
def tFldX (K : PySem.W.Frag) (ta : TE) (f : Str) : TE := fun σ H Q => ta σ H fun x H1 => ∃ a C dx fs v, x = .ref a ∧ H1 a = some (exo a C (some dx)) ∧ H1 dx = some (exd dx fs) ∧ L2.ExcC K C ∧ NoAttr K C f ∧ fs.lookup f = some v ∧ Q v H1
theorem pe_fldX {e : Expr} {f : Str} {ta : TE} {pos : Pos} (he : PE X e ta) (hb : attributeBase e f X.env (eval e X.env) = eval e X.env) : PE X (.Attribute e f pos) (tFldX X.K ta f) := by
  refine ⟨fun pins s σ H Q I h => ?_⟩
  refine attr_of hb (thn (he.run pins s σ H _ I h) fun u s1 ⟨x, H1, I1, rx, a, C, dx, fs, v, ex, ea, ed, T, n, l, q⟩ => ?_)
  subst ex
  obtain rfl : u = Value.ref a := rx
  obtain ⟨oe, od, mA, J, hl, hr⟩ := exo_inst I1 ea ed
  obtain ⟨u, hu, ru⟩ := RelO.some_of (v := v) (o := mA f) (by rw [← l]; exact hr f)
  exact HandSPX.exc_get I1.kIn J T.hg T.hk T.hs (PySem.W.findObj_own T.hd n rfl (by rw [hl, hu])) (handed_of ru) ⟨v, H1, I1.tok _, ru, q⟩
end
end VC
namespace PySem
namespace VcX
open PySem.Spec PyProof.Rows Builtin Builtin.ObjectAttr
/-! ### C(e, .., k = v, ..), C an exception class with an __init__ of its own -/
section
variable {M : Model} {A : Around} {E : Value → Shared → Prop} {h : Heap} {g : Array GenState} {d : Drawn} {t : Nat} {os : OsState}
variable {nm q : Str} {C N : Addr} {bs bm bmB : List Value} {hdct : Bool} {sn : List Str} {sub : List Value} {ab : Bool} {col : Option Bool} {dd : Option Addr} {k0 k1 k2 k3 k5 : Option Value} {B newId initId : String} {kw : List (Str × Value)}
theorem kw_checked (F : ExcBaseFacts B newId initId bmB) (hT : ∀ X : String, bm.contains (.type X) = bmB.contains (.type X)) {rest : List Value} {Q : Unit → Shared → Prop}
    (hC : h.get? C = some (excClassObj nm q C N bs bm hdct sn sub ab col dd k0 k1 k2 k3 k5 newId)) (hq : Q () ⟨h, g, d, t, os⟩) : wpAny M A (checkBuiltinCall newId ⟨.ref C :: rest, kw⟩) Q E ⟨h, g, d, t, os⟩ := by
  have inB : (Value.ref C :: bm).contains (.type B) = true := by rw [List.contains_cons, hT, F.hasB, Bool.or_true]
  have noS := F.noStar
  simp only [checkBuiltinCall, F.newKind, F.newSplit, F.newRow]
  repeat (first | refine wpAny_loadPart_at hC ?_ | (refine wpAny_isSubtype_exc hC ?_; rw [inB]) | refine wpAny_staticBase_exc hC ?_ | refine wpAny_madeBy_exc hC ?_ | simp only [bne_self_eq_false, Bool.false_eq_true, if_false] | wp_step)
  exact hq
end
section
variable {prog : Program} {w : World} {A : Around} {E : Value → Shared → Prop} {R : Result → Shared → Prop} {h : Heap} {g : Array GenState} {d : Drawn} {t : Nat} {os : OsState}
variable {nm q : Str} {C N : Addr} {bs bm bmB : List Value} {hdct : Bool} {sn : List Str} {sub : List Value} {ab : Bool} {col : Option Bool} {dd : Option Addr} {k0 k1 k2 k3 k5 : Option Value} {B newId initId : String} {kw : List (Str × Value)}
theorem kw_new (F : ExcBaseFacts B newId initId bmB) (hT : ∀ X : String, bm.contains (.type X) = bmB.contains (.type X)) {rest : List Value}
    (hC : h.get? C = some (excClassObj nm q C N bs bm hdct sn sub ab col dd k0 k1 k2 k3 k5 newId)) (hl : rest.length ≤ sizeLine)
    (hq : R (.ok (.ret (.ref (h.objs.size + 1)))) ⟨(h.push (PySem.W.kdv_tup rest)).push (PySem.HandSPX.excO C h.objs.size), g, d, t, os⟩) :
    codeAny (model prog w) A (.builtin newId ⟨.ref C :: rest, kw⟩) R ⟨h, g, d, t, os⟩ := by
  have ends := F.ends
  have inB : (Value.ref C :: bm).contains (.type B) = true := by rw [List.contains_cons, hT, F.hasB, Bool.or_true]
  have notA : (Value.ref C :: bm).contains (.type "AttributeError") = false := by rw [List.contains_cons, hT, F.noAttr]; rfl
  have notN : (Value.ref C :: bm).contains (.type "NameError") = false := by rw [List.contains_cons, hT, F.noName]; rfl
  refine codeAny_builtinAt F.entry ?_
  unfold Builtin.«BaseException.__new__»
  refine wpAt_bind ?_
  show wpAt _ _ _ (stack >>= _) _ _ _
  refine wpAt_bind (wpAt_stack fun p below => wpAt_of_wpAny ?_)
  wp_walk
  refine wpAt_of_wpAny ?_
  rw [F.owner]
  repeat (first | with_reducible refine wpAny_madeHere_exc F.canon hC ?_ | with_reducible refine wpAny_loadPart_at hC ?_ | (with_reducible refine wpAny_isSubtype_exc hC ?_; first | rw [inB] | rw [notA] | rw [notN]) | wp_step)
  show R _ _
  rw [Heap.size_push]
  exact hq
theorem kw_typeCall (F : ExcBaseFacts B newId initId bmB) (hT : ∀ X : String, bm.contains (.type X) = bmB.contains (.type X)) {rest : List Value} {fI : Addr} {Q : Fin → Shared → Prop}
    (hC : h.get? C = some (excClassObj nm q C N bs bm hdct sn sub ab col dd k0 k1 k2 k3 k5 newId)) (hi : PySem.W.Looks (model prog w) h (typeLookup (.ref C) "__init__") (some (.ref fI))) (hb : ∀ self, PySem.W.Looks (model prog w) h (bindSpecial (.ref fI) self) (.ref fI, [self])) (hl : rest.length ≤ sizeLine)
    (hq : codeAny (model prog w) A (.call (.ref fI) ⟨.ref (h.objs.size + 1) :: rest, kw⟩)
      (fun r s' => match r with | .ok (.ret v) => v = .none ∧ Q (.done (.ret (.ref (h.objs.size + 1)))) s' | .ok _ => False | .error e => E e s') ⟨(h.push (PySem.W.kdv_tup rest)).push (PySem.HandSPX.excO C h.objs.size), g, d, t, os⟩) :
    wpAny (model prog w) A (Builtin.«type.__call__» ⟨.ref C :: rest, kw⟩) Q E ⟨h, g, d, t, os⟩ := by
  repeat (first | with_reducible refine wpAny_loadPart_at hC ?_ | with_reducible refine wpAny_madeBy_exc hC ?_ | wp_step)
  refine codeAny_call_builtin_code (Code.quiet_builtin _ F.quiet) (kw_checked F hT hC ?_)
  refine kw_new F hT hC hl ?_
  show wpAny _ _ _ _ _ _
  have kp : ∀ b o, h.get? b = some o → ((h.push (PySem.W.kdv_tup rest)).push (PySem.HandSPX.excO C h.objs.size)).get? b = some o := fun b o e => Heap.get?_push_of_some _ (Heap.get?_push_of_some _ e)
  have hC1 := kp _ _ hC
  have he : ((h.push (PySem.W.kdv_tup rest)).push (PySem.HandSPX.excO C h.objs.size)).get? (h.objs.size + 1) = some (PySem.HandSPX.excO C h.objs.size) := by heap_get
  have inC : (Value.ref C :: bm).contains (.ref C) = true := by simp
  have i1 := hi.keeps kp
  have b1 := (hb (.ref (h.objs.size + 1))).keeps kp
  unfold isInstance
  repeat (first | with_reducible refine wpAny_loadPart_at he ?_ | (with_reducible refine wpAny_isSubtype_exc hC1 ?_; rw [inC]) | wp_step)
  show wpAny _ _ (typeLookup (.ref C) _) _ _ _
  refine i1.at ?_
  refine wpAny_holding (wpAny_bind (b1.at ?_))
  refine wpAny_bind (wpAny_call (codeAny_mono hq fun r s' z => ?_))
  rcases r with e | (v | _ | _ | _) <;> first | exact z | exact z.elim | skip
  obtain ⟨rfl, z⟩ := z
  first
    | exact wpAny_pure (wpAny_pure z)
    | (wp_walk; exact z)
theorem kw_sub {M : Model} {rest : List Value} {Q : Unit → Shared → Prop} (hC : h.get? C = some (excClassObj nm q C N bs bm hdct sn sub ab col dd k0 k1 k2 k3 k5 newId)) (hq : Q () ⟨h, g, d, t, os⟩) :
    wpAny M A (checkBuiltinCall "type.__call__" ⟨.ref C :: rest, kw⟩) Q E ⟨h, g, d, t, os⟩ := by
  have f3 := tc_sub
  have ty : (⟨h, g, d, t, os⟩ : Shared).TypeIs (.ref C) "type" := ⟨_, hC, rfl⟩
  simp only [checkBuiltinCall, tc_kind, tc_split]
  repeat (any_goals (first | assumption | with_reducible refine wpAny_loadPart_at hC ?_ | with_reducible refine wpAny_onRaise ?_ | with_reducible refine wpAny_map ?_ | wp_step))
theorem kw_call (F : ExcBaseFacts B newId initId bmB) (hT : ∀ X : String, bm.contains (.type X) = bmB.contains (.type X)) {rest : List Value} {fI : Addr}
    (hC : h.get? C = some (excClassObj nm q C N bs bm hdct sn sub ab col dd k0 k1 k2 k3 k5 newId)) (hi : PySem.W.Looks (model prog w) h (typeLookup (.ref C) "__init__") (some (.ref fI))) (hb : ∀ self, PySem.W.Looks (model prog w) h (bindSpecial (.ref fI) self) (.ref fI, [self])) (hl : rest.length ≤ sizeLine)
    (hq : codeAny (model prog w) (A.under (.builtin "type.__call__" ⟨.ref C :: rest, kw⟩)) (.call (.ref fI) ⟨.ref (h.objs.size + 1) :: rest, kw⟩) (PySem.W.InitBack (h.objs.size + 1) R) ⟨(h.push (PySem.W.kdv_tup rest)).push (PySem.HandSPX.excO C h.objs.size), g, d, t, os⟩) :
    codeAny (model prog w) A (.call (.ref C) ⟨rest, kw⟩) R ⟨h, g, d, t, os⟩ := by
  have f1 := tc_lookup
  have f2 := tc_bind (.ref C)
  have ty : (⟨h, g, d, t, os⟩ : Shared).TypeIs (.ref C) "type" := ⟨_, hC, rfl⟩
  refine codeAny_of_tree ?_
  show wpAny _ _ (callAny (.ref C) _) _ _ _
  repeat (any_goals (first | assumption | with_reducible refine wpAny_loadPart_at hC ?_ | wp_step))
  refine ⟨rfl, ?_⟩
  refine codeAny_call_builtin_at (Code.quiet_builtin _ (by decide +kernel)) entry_typeCall (kw_sub hC (kw_typeCall F hT hC hi hb hl ?_))
  refine codeAny_mono hq fun r s' z => ?_
  rcases r with e | (v | _ | _ | _) <;> exact z
end
end VcX
end PySem
namespace VC
open PySem PySem.Spec PyProof.Rows L2
section
variable {X : Cx} {CX : CXT} {k : Nat} {fI C : Addr} {fd : FuncData} {ps ks : List Str} {sp : Sp} {g : List Value → List Value → List Value} {gV : List V → List V → List V} {Er : XK}
/-- a new exception, its own __init__ run: it stays tracked -/
theorem run_mkx {pins : List (Addr × Obj)} {σ : L2.St} {H : Hp} {s : Shared} {Q : VK} {us ws : List Value} {vs zs : List V} (T : OexC X.K C) (iC : PySem.W.findIn X.K (.ref C) "__init__" = some (some (.ref fI))) (tI : PySem.W.typeIn X.K (.ref fI) = some (.type "function"))
    (F1 : FnOk X.prog X.w X.K X.mg X.base CX k fI fd ps sp) (hr : Room (k + 1) X.A) (hb : ∀ (s : Shared) (self : Value), X.K.In s.heap → BindsTo s fd ⟨self :: us, ks.zip ws⟩ (ps.zip (g (self :: us) ws))) (hv : ∀ (v : V) (u : Value), RelV v u → Vals (gV (v :: vs) zs) (g (u :: us) ws))
    (hx : Passes CX X Er) (I : Inv X pins σ H s) (hl : us.length ≤ sizeLine)
    (h : ∀ a, H a = none → sp (gV (.ref a :: vs) zs) (upd H a (exo a C none)) (fun v H2 => v = .non ∧ Q (.ref a) H2) Er) :
    wpAny (model X.prog X.w) X.A (call (.ref C) us (ks.zip ws)) (EP X pins σ Q) X.xe s := by
  obtain ⟨nm, q, N, bs, bm, sn, sub, ab, col, dd, k0, k1, k2, k3, k5, hC, hbm⟩ := T.cls
  obtain ⟨hp, gg, dr, tk, os⟩ := s
  have hsz : hp.objs.size ≤ hp.objs.size + 1 := Nat.le_succ _
  have hq := h (hp.objs.size + 1) (I.hok.fresh hsz)
  have kk : ∀ b o, hp.get? b = some o → ((hp.push (PySem.W.kdv_tup us)).push (PySem.HandSPX.excO C hp.objs.size)).get? b = some o := fun b o e => Heap.get?_push_of_some _ (Heap.get?_push_of_some _ e)
  have hget : ((hp.push (PySem.W.kdv_tup us)).push (PySem.HandSPX.excO C hp.objs.size)).get? (hp.objs.size + 1) = some (PySem.HandSPX.excO C hp.objs.size) := by heap_get
  have I2 : Inv X pins σ (upd H (hp.objs.size + 1) (exo (hp.objs.size + 1) C none)) ⟨(hp.push (PySem.W.kdv_tup us)).push (PySem.HandSPX.excO C hp.objs.size), gg, dr, tk, os⟩ :=
    I.laid (t' := tk) (a := hp.objs.size + 1) (o := exo (hp.objs.size + 1) C none) (h' := (hp.push (PySem.W.kdv_tup us)).push (PySem.HandSPX.excO C hp.objs.size)) kk hsz (exo_ok hget)
  refine wpAny_call (PySem.VcX.kw_call F.excBase_ValueError (fun Y => PySem.HandSPX.refsVE_contains Y bm hbm) (I.kIn _ _ hC) (PySem.W.looks_findIn I.kIn iC) (fun self => PySem.W.bind_fn I.kIn self tI) hl
    (codeAny_mono (F1.run _ X.stack _ _ ⟨Value.ref (hp.objs.size + 1) :: us, ks.zip ws⟩ (g (Value.ref (hp.objs.size + 1) :: us) ws) _ _ Er (hr.make C us (ks.zip ws)) (I2.env0.make C us (ks.zip ws)) (hb _ _ I2.kIn) (hv (.ref _) _ rfl) hq) fun r s' hq' => ?_))
  cases r with
  | error e => exact hx pins σ _ _ e s' I2 hq'
  | ok fl =>
    cases fl with
    | ret u =>
      obtain ⟨v, H', I3, rv, ev, q3⟩ := I2.after hq'
      subst ev
      exact ⟨rv, ⟨V.ref (hp.objs.size + 1), H', I3, rfl, q3⟩⟩
    | next => exact False.elim hq'
    | brk => exact False.elim hq'
    | cont => exact False.elim hq'
def tMkx (C : Addr) (sp : Sp) (gV : List V → List V → List V) (E : XK) (t tk : TA) : TE := fun σ H Q => t σ H fun vs H1 => tk σ H1 fun zs H2 => vs.length ≤ 1000 ∧ ∀ a, H2 a = none → sp (gV (.ref a :: vs) zs) (upd H2 a (exo a C none)) (fun v H3 => v = .non ∧ Q (.ref a) H3) E
variable {x : Str} {p pos : Pos} {e : Expr} {es : List Expr} {kws : List Keyword} {t tk : TA}
/-- C(e, ..) -/
theorem pe_mkx (T : OexC X.K C) (iC : PySem.W.findIn X.K (.ref C) "__init__" = some (some (.ref fI))) (tI : PySem.W.typeIn X.K (.ref fI) = some (.type "function")) (F1 : FnOk X.prog X.w X.K X.mg X.base CX k fI fd ps sp) (hr : Room (k + 1) X.A) (hb : Binds X.K fd ps []) (hx : Passes CX X Er) (hg : Gl X x) (hm : X.mg x = some (.ref C)) (ha : PA X (e :: es) t)
    (hdb : (x == ("__debug__" : Str)) = false) (he : starEach (e :: es) X.env = (false, eval e X.env) :: starEach es X.env) (hpl : (backTo pos (starEach es X.env)).any (·.1) = false) :
    PE X (.Call (.Name x p) (e :: es) [] pos) (tMkx C sp (fun vs _ => vs) Er t tNil) := by
  refine ⟨fun pins s σ H Q I h => ?_⟩
  refine wpAny_Call_Name_kw (ld_glob I hg hm ?_ hdb)
  refine PySem.W.callWith_K (h₀ := X.base) I.ok.mod.kin T.kC (thn (ha.run pos pins s σ H _ I h) fun us s1 ⟨vs, H1, I1, r1, hz, q1⟩ => ⟨I1.kIn, ?_⟩) he hpl
  have hl : us.length ≤ sizeLine := by
    rw [← Paired.length r1, sizeLine_eq]
    omega
  refine run_mkx (ks := []) (ws := []) (zs := []) (vs := vs) (g := fun us _ => us) (gV := fun vs _ => vs) T iC tI F1 hr (fun s self X => ?_) (fun v u rv => .cons rv r1) hx I1 hl q1
  have hq := q1 (s1.heap.objs.size) (I1.hok.fresh (Nat.le_refl _))
  have hlen := F1.len _ _ _ _ hq
  have := hb s (self :: us) X (by
    have := Paired.length r1
    simp only [List.length_cons, List.append_nil] at hlen ⊢
    omega)
  rw [List.append_nil] at this
  exact this
/-- C() -/
theorem pe_mkx0 (T : OexC X.K C) (iC : PySem.W.findIn X.K (.ref C) "__init__" = some (some (.ref fI))) (tI : PySem.W.typeIn X.K (.ref fI) = some (.type "function")) (F1 : FnOk X.prog X.w X.K X.mg X.base CX k fI fd ps sp) (hr : Room (k + 1) X.A) (hb : Binds X.K fd ps []) (hx : Passes CX X Er) (hg : Gl X x) (hm : X.mg x = some (.ref C))
    (hdb : (x == ("__debug__" : Str)) = false) : PE X (.Call (.Name x p) [] [] pos) (tMkx C sp (fun vs _ => vs) Er tNil tNil) := by
  refine ⟨fun pins s σ H Q I h => ?_⟩
  refine wpAny_Call_Name_kw (ld_glob I hg hm ?_ hdb)
  obtain ⟨_, q1⟩ := h
  refine PySem.W.callWith_K0 I.kIn T.kC ?_
  refine run_mkx (us := []) (ks := []) (ws := []) (zs := []) (vs := []) (g := fun us _ => us) (gV := fun vs _ => vs) T iC tI F1 hr (fun s self X => ?_) (fun v u rv => .cons rv .nil) hx I (Nat.zero_le _) q1
  have hq := q1 (s.heap.objs.size)
  have hlen : ps.length = 1 := by
    have := F1.len _ _ _ _ (q1 _ (I.hok.fresh (Nat.le_refl _)))
    simpa using this.symm
  have := hb s [self] X (by simp [hlen])
  rw [List.append_nil] at this
  exact this
/-- C(k = v, ..) -/
theorem pe_mkxK (T : OexC X.K C) (iC : PySem.W.findIn X.K (.ref C) "__init__" = some (some (.ref fI))) (tI : PySem.W.typeIn X.K (.ref fI) = some (.type "function")) (F1 : FnOk X.prog X.w X.K X.mg X.base CX k fI fd ps sp) (hr : Room (k + 1) X.A) (hb : KBn X.K fd ps 1 ks g gV) (hx : Passes CX X Er) (hg : Gl X x) (hm : X.mg x = some (.ref C)) (hkw : PK X kws tk)
    (hall : (backToKw pos (keywordEach kws X.env)).all (·.1.isSome) = true) (hks : (backToKw pos (keywordEach kws X.env)).filterMap (·.1) = ks) (hdb : (x == ("__debug__" : Str)) = false)
    (hpl : ((backTo pos (starEach [] X.env)).any (·.1) || (backToKw pos (keywordEach kws X.env)).any (·.1.isNone)) = false) (hlen : kws.length = ks.length) (hrun : ∀ σ H Q, tk σ H Q → tk σ H fun zs H1 => zs.length = ks.length ∧ Q zs H1) :
    PE X (.Call (.Name x p) [] kws pos) (tMkx C sp gV Er tNil tk) := by
  refine ⟨fun pins s σ H Q I h => ?_⟩
  refine wpAny_Call_Name_kw (ld_glob I hg hm ?_ hdb)
  refine PySem.W.callWith_KW0 (h₀ := X.base) I.ok.mod.kin T.kC hall ?_ hpl
  refine thn (hkw.run pos pins s σ H _ I (hrun _ _ _ h)) fun ws s2 ⟨zs, H2, I2, rz, l2, _, q2⟩ => ⟨I2.kIn, ?_⟩
  rw [hks]
  refine run_mkx (us := []) (vs := []) T iC tI F1 hr (fun s self X => hb.to s [self] ws X rfl (by rw [← rz.length]; exact l2)) (fun v u rv => hb.rel (.cons rv .nil) rz) hx I2 (Nat.zero_le _) q2
end
/-! ### an own class over object with an __eq__ of its own and no __ne__ -/
def eqClsB (K : PySem.W.Frag) (C f : Addr) : Bool := match K.lookup C with
  | some ⟨.type "type", _, .cls cd, sl⟩ => (match cd.mro, sl.toList with
    | [.ref C', .type "object"], [_, _, _, _, some (.builtin n), _] => decide (C' = C) && (!cd.hasDel && (PySem.W.nsOkIn K cd.ns && (decide (PySem.W.nsIn K cd.ns "__ne__" = some none) && decide (PySem.W.nsIn K cd.ns "__eq__" = some (some (.ref f))))))
    | _, _ => false)
  | _ => false
theorem ns_told {K : PySem.W.Frag} {h : Heap} {N : Addr} {mg : Str → Option Value} {n : Str} {v : Value} (X : K.In h) (G : h.Ns N mg) (e : PySem.W.nsIn K N n = some (some v)) : mg n = some v := by
  obtain ⟨o, es, ep, ho, hd, _, hf⟩ := G
  unfold PySem.W.nsIn at e
  split at e
  · rename_i c d es' n' sl q
    have z := X _ _ q
    rw [ho] at z
    cases z
    cases hd
    split at e
    · rename_i en he
      cases e
      rw [← hf]
      unfold nsFind findBy
      rw [← Array.find?_toList, he]
      rfl
    · split at e <;> cases e
  · cases e
theorem lkEq_object : typeLookup (.type "object") "__eq__" = pure (some (.builtin "object.__eq__")) := by
  rw [typeLookup_type, builtinLookup_eq_fast]
  kernel_rfl
theorem eqCls_ok {K : PySem.W.Frag} {h : Heap} {C f x : Addr} {o fo : Obj} (X : K.In h) (q : eqClsB K C f = true) (hx : h.get? x = some o) (hc : o.cls = .ref C) (hf : h.get? f = some fo) (hfc : fo.cls = .type "function") : h.OwnEqNoNe x C f "object" [.type "object"] := by
  unfold eqClsB at q
  split at q
  · rename_i dd cd sl ho
    split at q
    · rename_i C' k0 k1 k2 k3 n k5 hm hs
      simp only [Bool.and_eq_true, decide_eq_true_eq, Bool.not_eq_true'] at q
      obtain ⟨rfl, hdel, hok, hne, heq⟩ := q
      obtain ⟨nm, bs, mro, ns, qn, hd, sn, sub, ab, col, del⟩ := cd
      dsimp only at hm hdel hok hne heq
      subst hm hdel
      have hsl : sl = #[k0, k1, k2, k3, some (.builtin n), k5] := by
        obtain ⟨l⟩ := sl
        simp only at hs
        rw [hs]
      subst hsl
      exact ⟨o, fo, nm, qn, ns, bs, hd, sn, sub, ab, col, dd, k0, k1, k2, k3, k5, n, _, _, hx, hc, X _ _ ho, .of_isNs (PySem.W.isNs_of_in X hok), ns_told X (.of_isNs (PySem.W.isNs_of_in X hok)) heq, hf, hfc, PySem.F.mro_object, lkEq_object, PySem.W.nsMap_none_of_in X hok hne⟩
    · cases q
  · cases q
end VC
set_option Elab.async false
set_option linter.all false
set_option maxRecDepth 100000
set_option maxHeartbeats 1000000
/-! VCg: places, slices; kinds; the context; small lemmas about forms. -/
namespace VC
open PySem PySem.Spec PyProof.Rows L2
section
variable {X : Cx} {c : Cfg}
/-! ### places and slices -/
theorem ix_ok (hK : X.K = c.K) : IxR X (rV2 c dix) := by
  intro val slc pins s σ H x y v u Q I rx ry ⟨H0, dx, dy, sm, hx, hy, d, e, q⟩ hsl
  unfold dix at e
  split at e
  · obtain ⟨j, e1, e2⟩ := Option.bind_eq_some_iff.mp e
    obtain ⟨a, vs, rfl, ha, z, rr⟩ := soft_tup sm hx
    have e3 := soft_int hy; subst e3
    obtain ⟨w, hw, rw'⟩ := rr.get e2
    rw [← hK] at ha
    refine ix_seq val slc pins s σ H _ _ v u Q I rx ry (.inr (.inl ⟨a, vs, _, w, rfl, rfl, ha, ?_, q _ _ _ (.refl sm) rw'⟩)) hsl
    unfold atI
    rw [rr.length]
    exact (congrArg (fun o => Option.bind o fun j => vs[j]?) e1).trans hw
  · obtain ⟨j, e1, e2⟩ := Option.bind_eq_some_iff.mp e
    obtain ⟨a, vs, rfl, ha, z, rr⟩ := soft_lst sm hx
    have e3 := soft_int hy; subst e3
    obtain ⟨w, hw, rw'⟩ := rr.get e2
    refine ix_seq val slc pins s σ H _ _ v u Q I rx ry (.inl ⟨a, vs, _, w, rfl, rfl, SqL.of ha, ?_, q _ _ _ (.refl sm) rw'⟩) hsl
    unfold atI
    rw [rr.length]
    exact (congrArg (fun o => Option.bind o fun j => vs[j]?) e1).trans hw
  · cases e
def dsl (x : D) (l h : Option Int) : Option D := match x with
  | .tup xs => some (.tup (cutD xs l h))
  | .lst xs => some (.lst (cutD xs l h))
  | _ => none
theorem reps_cut {H0 : Hp} {vs : List V} {ds : List D} (r : Reps c H0 vs ds) (l h : Option Int) : Reps c H0 (cutV vs l h) (cutD ds l h) := by
  unfold cutV cutD
  rw [r.length]
  exact (r.drop _).take _
theorem cutV_le (vs : List V) (l h : Option Int) : (cutV vs l h).length ≤ vs.length := by
  unfold cutV
  rw [List.length_take, List.length_drop]
  omega
theorem cutD_whole {ds : List D} {l h : Option Int} (h1 : HT.sIx ds.length 0 l = 0) (h2 : HT.sIx ds.length ds.length h = ds.length) : cutD ds l h = ds := by
  unfold cutD
  rw [h1, h2, Nat.sub_zero, List.drop_zero, List.take_length]
theorem sl_ok (hK : X.K = c.K) : SlR X (fun x lo hi H Q => ∃ H0 dx, Same H0 H ∧ softP c x dx H0 H ∧ Val c H0 H (dsl dx lo hi) Q) := by
  intro pins s σ H x v vl vu lo hi sl Q I rx hs pl pu ⟨H0, dx, sm, hx, d, e, q⟩
  unfold dsl at e
  split at e
  · cases e
    obtain ⟨a, vs, rfl, ha, z, rr⟩ := soft_tup sm hx
    rw [← hK] at ha
    refine sl_tupA pins s σ H _ v vl vu lo hi sl Q I rx hs pl pu ⟨a, vs, rfl, ha, fun ⟨h1, h2⟩ => ?_, fun _ p np => rep_tup (sm.free np) (Nat.le_trans (cutV_le _ _ _) z) (reps_cut rr _ _) sm np q⟩
    rw [rr.length] at h1 h2
    rw [cutD_whole h1 h2] at q
    rcases hx with hx | ⟨_, _, _, _, e9, _⟩
    · exact q _ _ _ (.refl sm) hx
    · cases e9
  · cases e
    obtain ⟨a, vs, rfl, ha, z, rr⟩ := soft_lst sm hx
    exact sl_list pins s σ H _ v vl vu lo hi sl Q I rx hs pl pu ⟨a, vs, rfl, SqL.of ha, fun p np => rep_lst (sm.free np) (Nat.le_trans (cutV_le _ _ _) z) (reps_cut rr _ _) sm np q⟩
  · cases e
/-! ### kinds -/
def tyVal (c : Cfg) : Ty → Value
  | .int => .type "int" | .bool => .type "bool" | .str => .type "str" | .tuple => .type "tuple" | .list => .type "list" | .dict => .type "dict"
  | .own n => .ref (c.cl n)
def tyV' (c : Cfg) : Ty → V
  | .int => .ty "int" | .bool => .ty "bool" | .str => .ty "str" | .tuple => .ty "tuple" | .list => .ty "list" | .dict => .ty "dict"
  | .own n => .ref (c.cl n)
def tyName (cn : Nat → String) : Ty → String
  | .int => "int" | .bool => "bool" | .str => "str" | .tuple => "tuple" | .list => "list" | .dict => "dict"
  | .own n => cn n
def tyOf (c : Cfg) : D → Value
  | .non => .type "NoneType" | .bl _ => .type "bool" | .int _ => .type "int" | .str _ => .type "str" | .tup _ => .type "tuple" | .lst _ => .type "list" | .dic _ => .type "dict"
  | .obj n _ => .ref (c.cl n) | .pen => .type "dict" | .lam _ => .type "function"
theorem tyV_cls (t : Ty) : ClsV (tyV' c t) (tyVal c t) := by cases t <;> constructor
theorem tyV_rel (t : Ty) : RelV (tyV' c t) (tyVal c t) := by cases t <;> rfl
/-- what is known of a class whose instances are met -/
structure ObjTy (K : PySem.W.Frag) (C : Addr) : Prop where
  cl : L2.Cls K C
  ha : PySem.W.findIn K (.ref C) "__class__" = some (some (.builtin "object.__class__"))
  hn : PySem.W.specialIn K (.builtin "object.__class__") "__get__" = some (some (.builtin "getset_descriptor.__get__"))
  ht : PySem.W.takesIn K (.builtin "object.__class__") = some true
  hm : PySem.W.mroIn K C (.type "object") = some true
theorem soft_ty {H0 H : Hp} {v : V} {d : D} (sm : Same H0 H) (pen : ∃ st, PenAt c H0 H st) (hob : ∀ n, (if c.xs then L2.ExcC c.K (c.cl n) else ObjTy c.K (c.cl n)) ∨ c.used n = false) (hl : ∀ k, d ≠ .lam k) (h : softP c v d H0 H) : TyY c.K H v (tyOf c d) := by
  rcases h with h | ⟨p, vs, ds, rfl, rfl, h1, _⟩
  · cases h with
    | non => exact .inl (.base .non)
    | bl b => exact .inl (.base (.bl b))
    | int i => exact .inl (.base (.int i))
    | str x => exact .inl (.base (.str x))
    | tup h z r =>
      rcases same_sqT sm h with (h | ⟨o, h⟩) | ⟨o, its, n, h, hc, _⟩
      · exact .inl (.base (.tup h))
      · exact .inl (.fTuple h)
      · exact .inl (.kTuple h hc)
    | lst h z r => exact .inl (.base (.lst (sm _ _ h)))
    | dic h r => exact .inl (.base (.dK (sm _ _ h)))
    | @obj a dx fs n vs ds hx h hu f r =>
      rcases hob n with o | o
      · rw [if_neg (by rw [hx]; decide)] at o
        exact .inl (.base (.ins (sm _ _ h) o.cl o.ha o.hn o.ht o.hm))
      · rw [hu] at o
        cases o
    | @exc a dx fs n vs ds hx h hd hu f r =>
      rcases hob n with o | o
      · rw [if_pos hx] at o
        exact .inr ⟨a, _, rfl, rfl, o, .inr ⟨dx, fs, sm _ _ h, sm _ _ hd⟩⟩
      · rw [hu] at o
        cases o
    | @exc0 a n hx h hu f =>
      rcases hob n with o | o
      · rw [if_pos hx] at o
        exact .inr ⟨a, _, rfl, rfl, o, .inl (sm _ _ h)⟩
      · rw [hu] at o
        cases o
    | pen =>
      obtain ⟨st, ⟨_, h, _⟩, _, _⟩ := pen
      exact .inl (.base (.dK h))
    | lam _ _ _ _ => exact absurd rfl (hl _)
  · exact .inl (.base (.lst h1))
/-! ### forms -/
def notStar : Expr → Bool
  | .Starred .. => false
  | _ => true
theorem star_cons {e : Expr} {es : List Expr} {env : PySem.Env} (h : notStar e = true) : starEach (e :: es) env = (false, eval e env) :: starEach es env := by
  cases e <;> first | rfl | cases h
theorem star_any {env : PySem.Env} {pos : Pos} : ∀ {es : List Expr}, es.all notStar = true → (backTo pos (starEach es env)).any (·.1) = false
  | [], _ => rfl
  | e :: es, h => by
    simp only [List.all_cons, Bool.and_eq_true] at h
    rw [star_cons h.1]
    have ih := star_any (env := env) (pos := pos) h.2
    unfold backTo at ih ⊢
    rw [List.map_cons, List.any_cons, ih]
    rfl
def plainTest : Expr → Bool
  | .UnaryOp .Not _ _ => false
  | .BoolOp .. => false
  | .IfExp .. => false
  | .Compare .. => false
  | _ => true
theorem plain_is {x : Expr} {env : PySem.Env} (h : plainTest x = true) (whole : Sem Value) : isTrue x env whole = (do let v ← whole; standAt x.pos; holding [v] (truthy v)) := by
  cases x <;> first | rfl | (cases h; done) | skip
  rename_i op a p
  cases op <;> first | rfl | cases h
def notSlice : Expr → Bool
  | .Slice .. => false
  | _ => true
theorem ix_plain {x : Expr} (h : notSlice x = true) : PlainIx x := by
  intro o i
  cases x <;> first | rfl | cases h
theorem base_of {x : Expr} {f : Str} {env : PySem.Env} {t : Sem Value} : True := trivial
end
end VC
set_option Elab.async false
set_option linter.all false
set_option maxRecDepth 100000
set_option maxHeartbeats 1000000
/-! VCga: promises, exceptions, what stands behind the top. -/
namespace VC
open PySem PySem.Spec PyProof.Rows L2
/-- a def's promise where no repr runs around the call -/
structure FnG (P : Program) (w : World) (K : PySem.W.Frag) (mg : Str → Option Value) (base : Heap) (k : Nat) (f : Addr) (fd : FuncData) (ps : List Str) (sp : Sp) : Prop where
  len : ∀ vs H Q E, sp vs H Q E → vs.length = ps.length
  run : ∀ (A : Around) (outer : List PySem.Env) (s : Shared) (H : Hp) (args : Args) (us : List Value) (vs : List V) (Q : VK) (E : XK), A.guards = some [] → Room k A → Env0 P w K mg base A outer s H →
    BindsTo s fd args (ps.zip us) → Vals vs us → sp vs H Q E → codeAny (model P w) A (.call (.ref f) args) (CR (L2.CX P w) outer P w H s Q E) s
theorem FnG.mono {P : Program} {w : World} {K : PySem.W.Frag} {mg : Str → Option Value} {base : Heap} {j k : Nat} {f : Addr} {fd : FuncData} {ps : List Str} {sp : Sp} (G : FnG P w K mg base j f fd ps sp) (h : j ≤ k) : FnG P w K mg base k f fd ps sp :=
  ⟨G.len, fun A outer s H args us vs Q E hg hr => G.run A outer s H args us vs Q E hg (hr.mono h)⟩
def spF (f : Cf) (n : Nat) (F : List D → M D) : Sp := fun vs H Q E => ∃ H0 ds st, Same H0 H ∧ PenAt f.c H0 H st ∧ Reps f.c H0 vs ds ∧ vs.length = n ∧ Fin f E (hardP f.c) H0 H (F ds st) Q
/-- a list that comes is new, and one's own -/
def frP (c : Cfg) (Hs : Hp) : RP V D := fun v d H0 H => match d with
  | .lst _ => ∃ p, v = .ref p ∧ NoObj Hs p ∧ OwnR c H0 H v d
  | _ => Rep c H0 v d
def spFr (f : Cf) (n : Nat) (F : List D → M D) : Sp := fun vs H Q E => ∃ H0 ds st, Same H0 H ∧ PenAt f.c H0 H st ∧ Reps f.c H0 vs ds ∧ vs.length = n ∧ Fin f E (frP f.c H) H0 H (F ds st) Q
structure Tab where
  Phi : Fns
  has : Nat → Bool
  hasE : Nat → Bool
  en : Nat → String
  ef : Nat → Nat
  nm : Nat → String
  cn : Nat → String
  gcd : Bool
  hasC : Bool
  cnm : String
  /-- lambdas are made; their bodies; what is looked at where one is made -/
  hasL : Bool
  /-- defs that are handed lambdas -/
  hasG : Nat → Bool := fun _ => false
  /-- exceptions that are made as values: the class, the keywords' names, where each field's value stands -/
  hasM : Nat → List String → List Nat → Bool := fun _ _ _ => false
  /-- own classes that are made; own classes with an __eq__ -/
  hasI : Nat → Bool := fun _ => false
  hasQ : Nat → Bool := fun _ => false
  /-- defs whose lists are new -/
  hasF : Nat → Bool := fun _ => false
  lams : E
  lamB : Nat → Scope → Arguments → Expr → Scope → Bool
def Tab.noL (t : Tab) : Tab := { t with hasL := false }
def Tab.cold (t : Tab) : Tab := { t with hasC := false, hasL := false, lams := .nil, lamB := fun _ _ _ _ _ => false, hasM := fun _ _ _ => false }
def nthE : E → Nat → Option E
  | .cons a r, k => match k with
    | 0 => some a
    | k + 1 => nthE r k
  | _, _ => none
def bltNames : List String := ["len", "all", "any", "sum", "max", "min", "abs", "int", "repr", "tuple", "list", "sorted", "range", "zip", "enumerate", "isinstance", "bool", "str", "dict"]
/-! ### an exception is made: self.f = v, one after another -/
def fldsOf : List String → List V → List (Str × V) → List (Str × V)
  | n :: ns, v :: vs, acc => fldsOf ns vs ((Str.ofString n, v) :: acc)
  | _, _, acc => acc
/-- C.__init__(self, v, ..): its fields, by names -/
def spI (C : Addr) (names : List String) : Sp := fun vs H Q _ => ∃ a ws, vs = .ref a :: ws ∧ ws.length = names.length ∧ H a = some (exo a C none) ∧ (names = [] → Q .non H) ∧
  (names ≠ [] → ∀ dx, H dx = none → dx ≠ a → Q .non (upd (upd H dx (exd dx (fldsOf names ws []))) a (exo a C (some dx))))
theorem fldsOf_look : ∀ {names : List String} {ws : List V} {acc : List (Str × V)}, names.length = ws.length → (names.map Str.ofString).Nodup → (∀ n ∈ names, ∀ v, (Str.ofString n, v) ∉ acc) →
    (∀ (j : Nat) (n : String) (v : V), names[j]? = some n → ws[j]? = some v → (fldsOf names ws acc).lookup (Str.ofString n) = some v) ∧ ∀ m : Str, m ∉ names.map Str.ofString → (fldsOf names ws acc).lookup m = acc.lookup m
  | [], [], acc, _, _, _ => ⟨fun j n v e => by simp at e, fun m _ => rfl⟩
  | n :: ns, w :: ws, acc, hl, hn, ha => by
    rw [List.map_cons, List.nodup_cons] at hn
    obtain ⟨h1, h2⟩ := fldsOf_look (names := ns) (ws := ws) (acc := (Str.ofString n, w) :: acc) (by simpa using hl) hn.2 (fun m hm v hv => by
      rcases List.mem_cons.mp hv with e | hv
      · exact hn.1 (List.mem_map.mpr ⟨m, hm, (Prod.mk.inj e).1⟩)
      · exact ha m (List.mem_cons_of_mem _ hm) v hv)
    refine ⟨fun j m v e1 e2 => ?_, fun m hm => ?_⟩
    · cases j with
      | zero =>
        simp only [List.getElem?_cons_zero, Option.some.injEq] at e1 e2
        subst e1 e2
        show (fldsOf ns ws ((Str.ofString n, w) :: acc)).lookup (Str.ofString n) = some w
        rw [h2 _ hn.1, List.lookup_cons, beq_self_eq_true]
      | succ j => exact h1 j m v (by simpa using e1) (by simpa using e2)
    · rw [List.map_cons, List.mem_cons, not_or] at hm
      show (fldsOf ns ws ((Str.ofString n, w) :: acc)).lookup m = _
      rw [h2 m hm.2, List.lookup_cons, beq_eq_false_iff_ne.mpr hm.1]
  | [], _ :: _, _, hl, _, _ => by cases hl
  | _ :: _, [], _, hl, _, _ => by cases hl
/-- what is known of an exception's class -/
structure ExcAt (P : Program) (w : World) (K : PySem.W.Frag) (mg : Str → Option Value) (base : Heap) (k : Nat) (en : String) (C : Addr) (names : List String) : Prop where
  gl : mg (Str.ofString en) = some (.ref C)
  oex : OexC K C
  nd : (names.map Str.ofString).Nodup
  init : ∃ fI fd ps, PySem.W.findIn K (.ref C) "__init__" = some (some (.ref fI)) ∧ PySem.W.typeIn K (.ref fI) = some (.type "function") ∧ FnOk P w K mg base (L2.CX P w) k fI fd ps (spI C names) ∧ Binds K fd ps []
def pickV {α : Type} (l : List α) : List Nat → List α
  | [] => []
  | k :: ks => (match l[k]? with | some v => v :: pickV l ks | none => pickV l ks)
/-- what is known of an exception's class whose instances are made as values -/
structure MkAt (P : Program) (w : World) (K : PySem.W.Frag) (mg : Str → Option Value) (base : Heap) (k : Nat) (en : String) (C : Addr) (names : List String) (kn : List String) (ks : List Nat) : Prop where
  gl : mg (Str.ofString en) = some (.ref C)
  oex : OexC K C
  nd : (names.map Str.ofString).Nodup
  ok : kn = [] ∨ (kn.length = names.length ∧ ks.length = names.length ∧ ∀ j ∈ ks, j < kn.length)
  init : ∃ fI fd ps, PySem.W.findIn K (.ref C) "__init__" = some (some (.ref fI)) ∧ PySem.W.typeIn K (.ref fI) = some (.type "function") ∧ FnOk P w K mg base (L2.CX P w) k fI fd ps (spI C names) ∧
    (if kn = [] then Binds K fd ps [] else KBn K fd ps 1 (kn.map Str.ofString) (fun us ws => us ++ pickV ws ks) (fun vs zs => vs ++ pickV zs ks))
abbrev TSX := Addr → Value → Option Addr → TS
/-- the wishes of the clauses, one behind another; slot i is the name's -/
def wAll (K : PySem.W.Frag) (i : Nat) (Wout : WX) (D : Ends) : List (Value × TSX) → WX
  | [] => Wout
  | (c, ts) :: r => fun cls d σ H => ∃ b, PySem.W.exmOne K cls c = some b ∧
      (b = true → ∀ a, H a = none → ts a cls d { nx := fun σ' H' => D.nx (σ'.set i none) H', rt := D.rt, bk := fun σ' H' => D.bk (σ'.set i none) H', ct := fun σ' H' => D.ct (σ'.set i none) H' } (σ.set i (some (.ref a))) H) ∧ (b = false → wAll K i Wout D r cls d σ H)
inductive HdsA (X : Cx) (n : Str) : List ExceptHandler → List (Value × TSX) → Prop
  | nil : HdsA X n [] []
  | cons {x : Str} {c : Value} {ts : TSX} {b₀ : Stmt} {su : List Stmt} {np pos' : Pos} {hds : List ExceptHandler} {l : List (Value × TSX)} (hc : Names X x c)
      (hsu : ∀ (a : Addr) (oe : Obj) (cls : Value) (d : Option Addr) (pn : List (Addr × Obj)), Zc cls d oe → (∃ vs, oe.data = .fields vs) → PSs (X.suite a ((a, oe) :: pn)) (b₀ :: su) (ts a cls d)) (r : HdsA X n hds l) : HdsA X n (.ExceptHandler (some (.Name x np)) (some n) (b₀ :: su) pos' :: hds) ((c, ts) :: l)
def tXf (C : Addr) (a : Addr) (cls : Value) (d : Option Addr) (g : Str) (te : TE) : TE := fun σ H Q => te σ H fun x H1 => x = .ref a ∧ cls = .ref C ∧ ∃ (dd : Addr) (fs : List (Str × V)) (v : V), d = some dd ∧ H1 dd = some (.xd fs) ∧ fs.lookup g = some v ∧ Q v H1
/-! ### a clause's reading -/
def tFlds (C a : Addr) (cls : Value) (d : Option Addr) : List String → TA
  | [] => tNil
  | g :: gs => tCons (tXf C a cls d (Str.ofString g) (tVar 1)) (tFlds C a cls d gs)
def tClause (f : Cf) (c : Nat) (tag : String) : TSX := fun a cls d => tRet (tTup (tCons (L2.tC (.str (Str.ofString tag))) (tFlds (f.ec c) a cls d (f.c.F (1000 + c)))))
def clausesOf (f : Cf) (cs : List (Nat × String)) : List (Value × TSX) := cs.map fun p => (.ref (f.ec p.1), tClause f p.1 p.2)
/-- the clauses' tags, and which class each names -/
structure Tags (f : Cf) (K : PySem.W.Frag) (cs : List (Nat × String)) : Prop where
  tag : ∀ p ∈ cs, f.c.F (2000 + p.1) = [p.2]
  all : ∀ c tag, f.c.F (2000 + c) = [tag] → ∃ p ∈ cs, p.1 = c
  exm : ∀ c, (∃ p ∈ cs, p.1 = c) → ∀ p ∈ cs, PySem.W.exmOne K (.ref (f.ec c)) (.ref (f.ec p.1)) = some (decide (c = p.1))
  few : ∀ c, (f.c.F (1000 + c)).length ≤ 100
/-- the context in which the catching def's body runs -/
abbrev catchCx (X : Cx) (Ng : List Str) (x : Str) (sg : Scope) (g : Addr) (cdg : Value) (s : Shared) (H : Hp) : Cx := (cxOf (fun _ _ _ _ _ _ => False) X.prog X.w X.K X.mg X.base Ng x sg g cdg X.A X.stack s H (fun _ _ _ => False)).nox
/-- the text of a def that calls what it got, and catches -/
structure Catcher (X : Cx) (f : Cf) (x : Str) (g : Addr) (cdg : Value) (sg : Scope) (bg : List Stmt) (a n : Str) (cs : List (Nat × String)) : Prop where
  body : ∃ (p1 p2 p3 p4 p5 p6 : Pos) (j : Nat) (h₀ : ExceptHandler) (hds : List ExceptHandler), bg = [.Try [.Expr (.Call (.Name a p1) [] [] p2) p3] (h₀ :: hds) [] [] p4, .Return (some (.Constant .none j p5)) p6] ∧ ∀ s H, HdsA (catchCx X [a, n] x sg g cdg s H) n (h₀ :: hds) (clausesOf f cs)
  scope : FnScope [a, n] [a] sg
  loc : sg.names.lookup n = some .local
  vis : Vis sg a
  nd1 : (a == ("__debug__" : Str)) = false
  nd2 : (a == ("__classdict__" : Str)) = false
/-! ### own classes -/
/-- C.__init__(self, v, ..), by values: the fields of what is made -/
def spMk (f : Cf) (n np : Nat) (F : List D → M D) : Sp := fun vs H Q E => ∃ (H0 Hb : Hp) (a dx : Addr) (ws : List V) (ds : List D) (st : PenSt), vs = .ref a :: ws ∧ vs.length = np ∧ H = upd Hb a (.ins (f.c.cl n) dx []) ∧ Hb a = none ∧ Same H0 Hb ∧ PenAt f.c H0 Hb st ∧ a ≠ f.c.pa ∧ Reps f.c H0 ws ds ∧
  Fin f E (fun (v : V) (d : D) H0' H' => v = .non ∧ ∃ l dx gs us, d = .obj n l ∧ H' a = some (.ins (f.c.cl n) dx gs) ∧ H0' a = none ∧ FldsAre (f.c.F n) gs us ∧ Reps f.c H0' us l) H0 Hb (F ds st) Q
structure MkIAt (P : Program) (w : World) (K : PySem.W.Frag) (mg : Str → Option Value) (base : Heap) (k : Nat) (f : Cf) (Φ : Fns) (cn : Nat → String) (n : Nat) : Prop where
  gl : mg (Str.ofString (cn n)) = some (.ref (f.c.cl n))
  us : f.c.used n = true
  xs : f.c.xs = false
  run : ∃ fa fd ps, L2.Mk K (f.c.cl n) fa ∧ FnG P w K mg base k fa fd ps (spMk f n ps.length (Φ (5000 + n))) ∧ Binds K fd ps [] ∧ ∀ l st, Φ (5000 + n) l st ≠ .bad → l.length + 1 = ps.length
theorem MkIAt.mono {P : Program} {w : World} {K : PySem.W.Frag} {mg : Str → Option Value} {base : Heap} {j k : Nat} {f : Cf} {Φ : Fns} {cn : Nat → String} {n : Nat} (h : MkIAt P w K mg base j f Φ cn n) (hk : j ≤ k) : MkIAt P w K mg base k f Φ cn n := by
  obtain ⟨fa, fd, ps, h1, h2, h3, h4⟩ := h.run
  exact ⟨h.gl, h.us, h.xs, fa, fd, ps, h1, h2.mono hk, h3, h4⟩
theorem MkIAt.cong {P : Program} {w : World} {K : PySem.W.Frag} {mg : Str → Option Value} {base : Heap} {k : Nat} {f : Cf} {Φ Φ' : Fns} {cn : Nat → String} {n : Nat} (h : MkIAt P w K mg base k f Φ cn n) (e : Φ' (5000 + n) = Φ (5000 + n)) : MkIAt P w K mg base k f Φ' cn n := by
  obtain ⟨fa, fd, ps, h1, h2, h3, h4⟩ := h.run
  exact ⟨h.gl, h.us, h.xs, fa, fd, ps, h1, by rw [e]; exact h2, h3, by rw [e]; exact h4⟩
structure EqAt (P : Program) (w : World) (K : PySem.W.Frag) (mg : Str → Option Value) (base : Heap) (k : Nat) (f : Cf) (Φ : Fns) (n : Nat) : Prop where
  us : f.c.used n = true
  xs : f.c.xs = false
  nf : ∀ d, (∀ n l, d = .obj n l → f.c.used n = true) → PySem.W.notFirst K (f.c.cl n) (tyOf f.c d) = true
  run : ∃ fa fd ps, PySem.W.findIn K (.ref (f.c.cl n)) "__eq__" = some (some (.ref fa)) ∧ PySem.W.isFn K (.ref fa) = true ∧ FnG P w K mg base k fa fd ps (spF f ps.length (Φ (6000 + n))) ∧ Binds K fd ps [] ∧ ps.length = 2 ∧ eqClsB K (f.c.cl n) fa = true ∧ ∃ fo, K.lookup fa = some fo ∧ fo.cls = .type "function"
theorem EqAt.mono {P : Program} {w : World} {K : PySem.W.Frag} {mg : Str → Option Value} {base : Heap} {j k : Nat} {f : Cf} {Φ : Fns} {n : Nat} (h : EqAt P w K mg base j f Φ n) (hk : j ≤ k) : EqAt P w K mg base k f Φ n := by
  obtain ⟨fa, fd, ps, h1, h2, h3, h4, h5⟩ := h.run
  exact ⟨h.us, h.xs, h.nf, fa, fd, ps, h1, h2, h3.mono hk, h4, h5⟩
theorem EqAt.cong {P : Program} {w : World} {K : PySem.W.Frag} {mg : Str → Option Value} {base : Heap} {k : Nat} {f : Cf} {Φ Φ' : Fns} {n : Nat} (h : EqAt P w K mg base k f Φ n) (e : Φ' (6000 + n) = Φ (6000 + n)) : EqAt P w K mg base k f Φ' n := by
  obtain ⟨fa, fd, ps, h1, h2, h3, h4⟩ := h.run
  exact ⟨h.us, h.xs, h.nf, fa, fd, ps, h1, h2, by rw [e]; exact h3, h4⟩
/-! ### what stands behind the top, for a def's body -/
structure Base (P : Program) (w : World) (mg : Str → Option Value) (base : Heap) (f : Cf) (t : Tab) (k : Nat) : Prop where
  fns : ∀ n, t.has n = true → ∃ fa fd ps, mg (Str.ofString (t.nm n)) = some (.ref fa) ∧ PySem.W.keepIn f.c.K (.ref fa) = true ∧ FnG P w f.c.K mg base k fa fd ps (spF f ps.length (t.Phi n)) ∧ Binds f.c.K fd ps [] ∧ ∀ l st, t.Phi n l st ≠ .bad → l.length = ps.length
  blt : ∀ b ∈ bltNames, mg (Str.ofString b) = none
  gcd : t.gcd = true → mg (Str.ofString "gcd") = some (.builtin "math.gcd")
  objs : ∀ n, (if f.c.xs then L2.ExcC f.c.K (f.c.cl n) else ObjTy f.c.K (f.c.cl n)) ∨ f.c.used n = false
  cls : ∀ n, f.c.used n = true → mg (Str.ofString (t.cn n)) = some (.ref (f.c.cl n))
  isi : ∀ ty d, (∀ n, ty = .own n → f.c.used n = true) → (∀ n l, d = .obj n l → f.c.used n = true) → PySem.W.kitOne f.c.K (tyOf f.c d) (tyVal f.c ty) = some (dtype ty d)
  fld : ∀ n g, f.c.used n = true → g ∈ f.c.F n → NoAttr f.c.K (f.c.cl n) (Str.ofString g)
  exc : ∀ n, t.hasE n = true → ExcAt P w f.c.K mg base k (t.en n) (f.ec n) (f.c.F (1000 + n)) ∧ (f.c.F (1000 + n)).length = t.ef n
  mkx : ∀ n kn ks, t.hasM n kn ks = true → MkAt P w f.c.K mg base k (t.en n) (f.c.cl (1000 + n)) (f.c.F (1000 + n)) kn ks ∧ f.c.xs = true ∧ f.c.used (1000 + n) = true ∧ (f.c.F (1000 + n)).length = t.ef n
  mki : ∀ n, t.hasI n = true → ∃ j, j + 1 ≤ k ∧ MkIAt P w f.c.K mg base j f t.Phi t.cn n
  eqs : ∀ n, t.hasQ n = true → ∃ j, j + 1 ≤ k ∧ EqAt P w f.c.K mg base j f t.Phi n
  frs : ∀ n, t.hasF n = true → ∃ fa fd ps, mg (Str.ofString (t.nm n)) = some (.ref fa) ∧ PySem.W.keepIn f.c.K (.ref fa) = true ∧ FnG P w f.c.K mg base k fa fd ps (spFr f ps.length (t.Phi n)) ∧ Binds f.c.K fd ps [] ∧ ∀ l st, t.Phi n l st ≠ .bad → l.length = ps.length
/-- what a call of the catching def with a lambda asks of the context -/
def CatAt (X : Cx) (f : Cf) (t : Tab) : Prop := ∃ (g : Addr) (cdg : Value) (sg : Scope) (bg : List Stmt) (a n : Str) (cs : List (Nat × String)) (cAd P : Addr) (k : Nat) (pg : Arguments) (dV kV doc pm ct oc : Value) (an od : Option Addr) (osl : Array (Option Value)),
  X.mg (Str.ofString t.cnm) = some (.ref g) ∧ PySem.W.keepIn X.K (.ref g) = true ∧ X.K.lookup g = some ⟨oc, od, .func (PySem.W.fnOf (Str.ofString t.cnm) (Str.ofString t.cnm) pg bg sg dV kV doc pm an cdg ct), osl⟩ ∧ PySem.W.codeIn X.K cdg (Str.ofString t.cnm) = true ∧
  L2.Binds X.K (PySem.W.fnOf (Str.ofString t.cnm) (Str.ofString t.cnm) pg bg sg dV kV doc pm an cdg ct) [a] [] ∧ Catcher X f (Str.ofString t.cnm) g cdg sg bg a n cs ∧ Tags f X.K cs ∧ LamX.TabB X.base X.mg cAd P ∧ X.env.code = .ref cAd ∧ (P, X.env.qual ++ "<lambda>") ∈ f.c.tabs ∧
  (∀ p ∈ f.c.tabs, p.1 = P → p.2 = X.env.qual ++ "<lambda>") ∧ Room (k + 2) X.A ∧ Base X.prog X.w X.mg X.base f { t with hasC := false } k
end VC
set_option Elab.async false
set_option linter.all false
set_option maxRecDepth 100000
set_option maxHeartbeats 1000000
/-! VCgb: what must be known of a maker's cells where a lambda of his is called out of another frame. -/
namespace VC
open PySem PySem.Spec PyProof.Rows L2
/-- the maker's cells, as they stand in a heap -/
structure KC (X : Cx) (σ : L2.St) (H : Hp) (h : Heap) : Prop where
  ok : X.Ok
  len : σ.length = X.N.length
  cel : ∀ y c, X.env.cells.lookup y = some c → H c = none ∧ ∃ v, h.IsCell c v
  val : ∀ (i : Nat) y v, X.N[i]? = some y → σ[i]? = some (some v) → (X.env.scope.names.lookup y = some .cell ∨ X.env.scope.names.lookup y = some .free) → ∃ u c, RelV v u ∧ X.env.cells.lookup y = some c ∧ h.IsCell c (some u)
theorem KC.of {X : Cx} {pins : List (Addr × Obj)} {σ : L2.St} {H : Hp} {s : Shared} (I : Inv X pins σ H s) : KC X σ H s.heap := by
  refine ⟨I.ok, I.len, fun y c e => ⟨I.freeC y c e, I.cell y c e⟩, fun i y v e1 e2 k => ?_⟩
  obtain ⟨m, _, hl⟩ := I.loc
  obtain ⟨u, r, q⟩ := hl i y v e1 e2 (k.elim (fun z => .inr (.inl z)) fun z => .inr (.inr z))
  rcases q with ⟨z, _⟩ | ⟨_, c, e, z⟩
  · have z : X.env.scope.names.lookup y = some .local := z
    rcases k with k | k <;> rw [k] at z <;> cases z
  · exact ⟨u, c, r, e, z⟩
theorem KC.keep {X : Cx} {σ : L2.St} {fs ex : List Addr} {H H' : Hp} {h h' : Heap} (k : KC X σ H h) (u : Un fs ex H H' h h') (hx : ∀ y c, X.env.cells.lookup y = some c → c ∉ ex) : KC X σ H' h' := by
  have cell : ∀ {y : Str} {c : Addr} {v : Option Value}, X.env.cells.lookup y = some c → h.IsCell c v → h'.IsCell c v := fun {y c v} e ⟨o, ho, hd⟩ => by
    obtain ⟨sl, q⟩ := u.any ho (k.cel y c e).1 (hx y c e)
    exact ⟨_, q, hd⟩
  refine ⟨k.ok, k.len, fun y c e => ?_, fun i y v e1 e2 z => ?_⟩
  · obtain ⟨n, v, w⟩ := k.cel y c e
    obtain ⟨o, ho, hd⟩ := w
    exact ⟨u.free c o ho n (hx y c e), v, cell e ⟨o, ho, hd⟩⟩
  · obtain ⟨a, c, r, e, w⟩ := k.val i y v e1 e2 z
    exact ⟨a, c, r, e, cell e w⟩
/-- a def that is handed a lambda of X's ahead of values, tells its fault and goes on: `Phi g` at the fault and the values -/
def GAt (X : Cx) (f : Cf) (t : Tab) (g : Nat) : Prop := ∃ ga : Addr, X.mg (Str.ofString (t.nm g)) = some (.ref ga) ∧ PySem.W.keepIn X.K (.ref ga) = true ∧
  ∀ (s' : Shared) (H0 H1 : Hp) (σX : L2.St) (ρX : Env) (st st' : PenSt) (Q : VK) (l : V) (us : List Value) (vs : List V) (j : Nat) (ds : List D) (x : D),
    Env0 X.prog X.w X.K X.mg X.base X.A X.stack s' H1 → X.K.In s'.heap → KC X σX H1 s'.heap → Rel f.c H0 H1 σX ρX st → Rep f.c H0 l (.lam j) → Reps f.c H0 vs ds → Vals (l :: vs) us →
    M.bind (M.fault f.c.F (evn t.Phi f.c.F t.lams j ρX)) (fun v => t.Phi g (v :: ds)) st = .ok x st' → (∀ w H0' H', Grow f.c H0 H1 H0' H' → PenAt f.c H0' H' st' → Rep f.c H0' w x → Q w H') →
    codeAny (model X.prog X.w) X.A (.call (.ref ga) ⟨us, []⟩) (CR (fun _ _ _ _ _ _ => False) X.stack X.prog X.w H1 s' Q (fun _ _ _ => False)) s'
end VC
set_option Elab.async false
set_option linter.all false
set_option maxRecDepth 100000
set_option maxHeartbeats 1000000
/-! VCh: the context; what a checked expression is. -/
namespace VC
open PySem PySem.Spec PyProof.Rows L2
structure FnAt (X : Cx) (f : Cf) (t : Tab) (n : Nat) : Prop where
  ok : ∃ fa fd ps k, X.mg (Str.ofString (t.nm n)) = some (.ref fa) ∧ PySem.W.keepIn X.K (.ref fa) = true ∧ FnG X.prog X.w X.K X.mg X.base k fa fd ps (spF f ps.length (t.Phi n)) ∧ Room k X.A ∧ Binds X.K fd ps [] ∧
    ∀ l st, t.Phi n l st ≠ .bad → l.length = ps.length
/-! ### checks -/
def visB (sc : Scope) (x : Str) : Bool := sc.names.lookup x == some .local || sc.names.lookup x == some .cell || sc.names.lookup x == some .free
def glB (sc : Scope) (x : Str) : Bool := sc.names.lookup x == some .globalImplicit
def varB (N : List Str) (sc : Scope) (i : Nat) (x : Str) : Bool := N[i]? == some x && visB sc x && !(x == "__debug__") && !(x == "__classdict__")
/-- the names of a target, as slots -/
def ownsOf (N : List Str) (is : List Nat) : List (Str × Nat) := is.filterMap fun i => (N[i]?).map fun x => (x, i)
def tgB (N : List Str) (scope : Scope) : Tg → Expr → Bool
  | .name i, .Name x _ => N[i]? == some x && (scope.names.lookup x == some .local || scope.names.lookup x == some .cell)
  | .tup is, .Tuple es _ _ => is.length == es.length && (is.zip es).all fun p => match p.2 with
    | .Name x _ => N[p.1]? == some x && (scope.names.lookup x == some .local || scope.names.lookup x == some .cell)
    | _ => false
  | _, _ => false
/-- a comprehension's block: its own names are the target's -/
def blkB (N : List Str) (sc scope : Scope) (is : List Nat) : Bool :=
  decide (scope.kind = .function) && scope.names.all (fun y => scope.names.lookup y.1 == some y.2) && is.all (fun i => (N[i]?).isSome) &&
  scope.names.all (fun y => !(y.2 == .free) || sc.names.lookup y.1 == some .cell || sc.names.lookup y.1 == some .free) &&
  scope.names.all (fun y => !(y.2 == .local || y.2 == .cell) || (ownsOf N is).any (fun p => p.1 == y.1) || !N.contains y.1)
def biName : BI → String
  | .len => "len" | .all => "all" | .any => "any" | .sum => "sum" | .max => "max" | .min => "min" | .abs => "abs" | .int => "int" | .gcd => "gcd" | .repr => "repr" | .tuple => "tuple" | .list => "list" | .sorted => "sorted"
  | .bits => "" | .isi _ => "isinstance"
def itName : It → String
  | .seq => "" | .range => "range" | .zip => "zip" | .enum => "enumerate"
/-- no call super() ahead of a dot -/
def notSuper : Expr → Bool
  | .Call _ [] _ _ => false
  | _ => true
theorem base_is {o : Expr} {g : Str} {env : PySem.Env} {whole : Sem Value} (h : notSuper o = true) : attributeBase o g env whole = whole := by
  unfold attributeBase
  split
  · cases h
  · rfl
/-- no parameter -/
def noPar : Arguments → Bool
  | ⟨[], [], none, [], [], none, []⟩ => true
  | _ => false
def kcB : Kc → Expr → Bool
  | .i n, .Constant (.int m) _ _ => n == m
  | .s z, .Constant (.str y) _ _ => Str.ofString z == y
  | _, _ => false
/-- a keyword's value -/
def kwV : Keyword → Expr
  | ⟨_, v, _⟩ => v
/-- the keywords' names are these -/
def kwB : List String → List Keyword → Bool
  | [], [] => true
  | n :: ns, ⟨some m, _, _⟩ :: ks => m == Str.ofString n && kwB ns ks
  | _, _ => false
def tyB (t : Tab) (used : Nat → Bool) (sc : Scope) : Ty → Expr → Bool
  | ty, .Name x _ => glB sc x && !(x == "__debug__") && x == Str.ofString (tyName t.cn ty) && (match ty with | .own n => used n | _ => true)
  | _, _ => false
def tysB (t : Tab) (used : Nat → Bool) (sc : Scope) (ts : List Ty) (x : Expr) : Bool := match ts, x with
  | [ty], .Name id p => tyB t used sc ty (.Name id p)
  | ts, .Tuple es _ _ => ts.length == es.length && decide (ts.length ≤ 20) && (ts.zip es).all fun p => tyB t used sc p.1 p.2
  | _, _ => false
section
variable (N : List Str) (used : Nat → Bool)
mutual
def chk : Tab → E → Scope → Expr → Bool
  | t, .var i, sc, x => match x with | .Name id _ => varB N sc i id | _ => false
  | t, .bor i, sc, x => match x with | .Name id _ => varB N sc i id | _ => false
  | t, .int i, _, x => match x with | .Constant (.int j) _ _ => i == j | _ => false
  | t, .bl b, _, x => match x with | .Constant (.bool j) _ _ => b == j | _ => false
  | t, .non, _, x => match x with | .Constant .none _ _ => true | _ => false
  | t, .str s, _, x => match x with | .Constant (.str z) _ _ => Str.ofString s == z | _ => false
  | t, .nil, _, _ => false
  | t, .cons _ _, _, _ => false
  | t, .tup r, sc, x => match x with | .Tuple es _ _ => hards r && decide (es.length ≤ 1000) && chks t r sc es | _ => false
  | t, .lst r, sc, x => match x with | .List es _ => hards r && decide (es.length ≤ 1000) && chks t r sc es | _ => false
  | t, .bin o a b, sc, x => match x with | .BinOp p op q _ => op == opOf o && chk t a sc p && chk t b sc q | _ => false
  | t, .neg a, sc, x => match x with | .UnaryOp .USub p _ => chk t a sc p | _ => false
  | t, .no a, sc, x => match x with | .UnaryOp .Not p _ => chk t a sc p | _ => false
  | t, .cmp o a b, sc, x => match x with | .Compare p [op] [q] _ => op == cmpOf o && !behindInMarks op q && chk t a sc p && chk t b sc q | _ => false
  | t, .chain o o2 a b c, sc, x => match x with
    | .Compare p [op, op2] [q, r] _ => op == cmpOf o && op2 == cmpOf o2 && !(op == .In || op == .NotIn) && !(op2 == .In || op2 == .NotIn) && chk t a sc p && chk t b sc q && chk t c sc r
    | _ => false
  | t, .and a b, sc, x => match x with
    | .BoolOp .And [p, q] _ => !isBor a && !isBor b && chk t a sc p && chk t b sc q
    | .BoolOp .And (p :: q :: r :: rs) pos => !isBor a && !isBor b && chk t a sc p && chk t b sc (.BoolOp .And (q :: r :: rs) pos)
    | _ => false
  | t, .or a b, sc, x => match x with
    | .BoolOp .Or [p, q] _ => !isBor a && !isBor b && chk t a sc p && chk t b sc q
    | .BoolOp .Or (p :: q :: r :: rs) pos => !isBor a && !isBor b && chk t a sc p && chk t b sc (.BoolOp .Or (q :: r :: rs) pos)
    | _ => false
  | t, .ite c a b, sc, x => match x with | .IfExp p q r _ => !isBor a && !isBor b && chk t c sc p && chk t a sc q && chk t b sc r | _ => false
  | t, .call f r, sc, x => match x with | .Call (.Name id _) (e :: es) [] _ => t.has f && glB sc id && id == Str.ofString (t.nm f) && !(id == "__debug__") && hards r && (e :: es).all notStar && chks t r sc (e :: es) | _ => false
  | t, .bi f r, sc, x => match x with
    | .Call (.Name id _) (e :: es) [] _ => glB sc id && (e :: es).all notStar && (match f with
      | .isi ts => id == "isinstance" && (match r, es with | .cons a .nil, [ty] => chk t a sc e && tysB t used sc ts ty | _, _ => false)
      | .bits => false
      | .gcd => t.gcd && id == "gcd" && chks t r sc (e :: es)
      | f => id == Str.ofString (biName f) && chks t r sc (e :: es))
    | .Call (.Attribute o g ap) [] [] pos => (match f, r with
      | .bits, .cons a .nil => g == "bit_length" && (ap.endLine == pos.line) && notSuper o && chk t a sc o
      | _, _ => false)
    | _ => false
  | t, .ix a i, sc, x => match x with | .Subscript p q _ => notSlice q && chk t a sc p && chk t i sc q | _ => false
  | t, .sl a lo hi, sc, x => match x with | .Subscript p (.Slice l h none _) _ => chk t a sc p && chko t lo sc l && chko t hi sc h | _ => false
  | t, .fld a g, sc, x => match x with | .Attribute p id _ => id == Str.ofString g && notSuper p && !isBor a && chk t a sc p | _ => false
  | t, .comp e tg k r c, sc, x => match x with
    | .ListComp elt [⟨tg', iter, ifs, 0⟩] scope _ => blkB N sc scope tg.slots && tgB N scope tg tg' && !isBor e && chkc t.noL c (relS scope sc) ifs && chk t.noL e (relS scope sc) elt && (match k with
      | .seq => (match r with | .cons a .nil => chk t a sc iter | _ => false)
      | .range => (match iter with | .Call (.Name id _) (a :: as) [] _ => decide (as.length ≤ 1) && glB sc id && id == "range" && (a :: as).all notStar && chks t r sc (a :: as) | _ => false)
      | .zip => (match r, tg, tg', iter with | .cons _ (.cons _ .nil), .tup _, .Tuple _ _ _, .Call (.Name id _) [a, b] [] _ => glB sc id && id == "zip" && notStar a && notStar b && chks t r sc [a, b] | _, _, _, _ => false)
      | .enum => false)
    | _ => false
  | t, .listIt k r, sc, x => match x with
    | .Call (.Name id _) [.Call (.Name id2 _) (a :: as) [] _] [] _ => glB sc id && id == "list" && k == .range && decide (as.length ≤ 1) && glB sc id2 && id2 == "range" && (a :: as).all notStar && chks t r sc (a :: as)
    | _ => false
  | t, .catch e, sc, x => match x with
    | .Call (.Name id _) [.Lambda params body scope _] [] _ => t.hasC && glB sc id && id == Str.ofString t.cnm && !(id == "__debug__") && LamX.lamSB sc scope && noPar params && chk t.cold e scope body
    | _ => false
  | t, .dic0, _, x => match x with | .Dict [] [] _ => true | _ => false
  | t, .dic1 k a, sc, x => match x with | .Dict [some y] [z] _ => kcB k y && !isBor a && chk t a sc z | _ => false
  | t, .lam k, sc, x => match x with | .Lambda params body scope _ => t.hasL && t.lamB k sc params body scope | _ => false
  | t, .catchV a bs, sc, x => match x with
    | .Call (.Name id _) [y] [] _ => t.hasL && t.hasC && glB sc id && id == Str.ofString t.cnm && !(id == "__debug__") && decide (bs = t.lams) && !isBor a && notStar y && chk t a sc y
    | _ => false
  | t, .compG g tg k r as bs, sc, x => match x with
    | .ListComp (.Call (.Name id _) (y :: ys) [] _) [⟨tg', iter, [], 0⟩] scope _ => t.hasL && t.hasG g && decide (bs = t.lams) && (k == .seq) && blkB N sc scope tg.slots && tgB N scope tg tg' && glB (relS scope sc) id && id == Str.ofString (t.nm g) && !(id == "__debug__") && hards as && (y :: ys).all notStar && chks t.noL as (relS scope sc) (y :: ys) && (match r with | .cons a .nil => chk t a sc iter | _ => false)
    | _ => false
  | t, .mk c kn ks r, sc, x => match x with
    | .Call (.Name id _) es kws _ => t.hasM c kn ks && glB sc id && id == Str.ofString (t.en c) && !(id == "__debug__") && hards r && (if kn.isEmpty then kws.isEmpty && es.all notStar && decide (es.length ≤ 900) && es.length == t.ef c && chks t r sc es else es.isEmpty && kwB kn kws && decide (kws.length ≤ 900) && chks t r sc (kws.map kwV))
    | _ => false
  | t, .callB f r, sc, x => match x with | .Call (.Name id _) (e :: es) [] _ => t.has f && glB sc id && id == Str.ofString (t.nm f) && !(id == "__debug__") && (e :: es).all notStar && chks t r sc (e :: es) | _ => false
  | t, .mkI n r, sc, x => match x with | .Call (.Name id _) (e :: es) [] _ => t.hasI n && glB sc id && id == Str.ofString (t.cn n) && !(id == "__debug__") && (e :: es).all notStar && decide (es.length ≤ 900) && chks t r sc (e :: es) | _ => false
  | t, .eqO neg n a b, sc, x => match x with | .Compare p [op] [q] _ => op == (if neg then .NotEq else .Eq) && t.hasQ n && !isBor a && !isBor b && !behindInMarks op q && chk t a sc p && chk t b sc q | _ => false
def chks : Tab → E → Scope → List Expr → Bool
  | t, .nil, _, xs => xs.isEmpty
  | t, .cons a r, sc, xs => match xs with | x :: ys => notStar x && chk t a sc x && chks t r sc ys | [] => false
  | _, _, _, _ => false
def chko : Tab → E → Scope → Option Expr → Bool
  | t, .nil, _, x => x.isNone
  | t, .cons a _, sc, x => match x with | some y => chk t a sc y | none => false
  | _, _, _, _ => false
def chkc : Tab → E → Scope → List Expr → Bool
  | t, .nil, _, xs => xs.isEmpty
  | t, .cons a _, sc, xs => match xs with | [x] => chk t a sc x | _ => false
  | _, _, _, _ => false
end
end
/-- what is looked at where a lambda is made, by its body's checks -/
def lamStd (N : List Str) (used : Nat → Bool) (t : Tab) (bs : E) : Nat → Scope → Arguments → Expr → Scope → Bool := fun k sc params body scope =>
  match nthE bs k with
  | some e => LamX.lamSB sc scope && noPar params && chk N used t.cold e scope body
  | none => false
/-- what is known of a lambda's function object -/
def LamAt (X : Cx) (t : Tab) (k : Nat) (c' : Addr) (ob : Obj) : Prop := ∃ (params : Arguments) (body : Expr) (scope : Scope) (pm ctv : Value),
  t.lamB k X.env.scope params body scope = true ∧ ob = PySem.W.kla_obj "<lambda>" (X.env.qual ++ "<lambda>") params body scope (cloFrom X.env.cells scope.names []) pm c' ctv
structure LamOk (X : Cx) (f : Cf) (t : Tab) : Prop where
  cat : t.hasC = true
  hot : f.c.hot = true
  lo : f.c.lo = LamAt X t
  lc : f.c.lc = fun c' => LamX.CodeO c' (X.env.qual ++ "<lambda>")
  gat : ∀ g, t.hasG g = true → GAt X f t g
  std : ∀ k params body scope, t.lamB k X.env.scope params body scope = true → ∃ e, nthE t.lams k = some e ∧ LamX.lamSB X.env.scope scope = true ∧ noPar params = true ∧ chk X.N f.c.used t.cold e scope body = true
theorem Base.noL {P : Program} {w : World} {mg : Str → Option Value} {base : Heap} {f : Cf} {t : Tab} {k : Nat} (B : Base P w mg base f t k) : Base P w mg base f t.noL k := ⟨B.fns, B.blt, B.gcd, B.objs, B.cls, B.isi, B.fld, B.exc, B.mkx, B.mki, B.eqs, B.frs⟩
theorem Base.cold {P : Program} {w : World} {mg : Str → Option Value} {base : Heap} {f : Cf} {t : Tab} {k : Nat} (B : Base P w mg base f t k) : Base P w mg base f t.cold k := ⟨B.fns, B.blt, B.gcd, B.objs, B.cls, B.isi, B.fld, B.exc, fun _ _ _ z => (nomatch z), B.mki, B.eqs, B.frs⟩
structure Ok (X : Cx) (f : Cf) (t : Tab) (E : XK) : Prop where
  hK : X.K = f.c.K
  calm : X.calm = true
  nd : X.N.Nodup
  grd : X.A.guards = some []
  units : X.A.units + 65 < cLine
  fns : ∀ n, t.has n = true → FnAt X f t n
  blt : ∀ b ∈ bltNames, X.mg (Str.ofString b) = none
  gcd : t.gcd = true → X.mg (Str.ofString "gcd") = some (.builtin "math.gcd")
  objs : ∀ n, (if f.c.xs then L2.ExcC f.c.K (f.c.cl n) else ObjTy f.c.K (f.c.cl n)) ∨ f.c.used n = false
  cls : ∀ n, f.c.used n = true → X.mg (Str.ofString (t.cn n)) = some (.ref (f.c.cl n))
  isi : ∀ ty d, (∀ n, ty = .own n → f.c.used n = true) → (∀ n l, d = .obj n l → f.c.used n = true) → PySem.W.kitOne X.K (tyOf f.c d) (tyVal f.c ty) = some (dtype ty d)
  fld : ∀ n g, f.c.used n = true → g ∈ f.c.F n → NoAttr f.c.K (f.c.cl n) (Str.ofString g)
  mkx : ∀ n kn ks, t.hasM n kn ks = true → (∃ k, MkAt X.prog X.w f.c.K X.mg X.base k (t.en n) (f.c.cl (1000 + n)) (f.c.F (1000 + n)) kn ks ∧ Room (k + 1) X.A) ∧ f.c.xs = true ∧ f.c.used (1000 + n) = true ∧ (f.c.F (1000 + n)).length = t.ef n
  mki : ∀ n, t.hasI n = true → ∃ k, MkIAt X.prog X.w f.c.K X.mg X.base k f t.Phi t.cn n ∧ Room (k + 1) X.A
  eqs : ∀ n, t.hasQ n = true → ∃ k, EqAt X.prog X.w f.c.K X.mg X.base k f t.Phi n ∧ Room (k + 1) X.A
  frs : ∀ n, t.hasF n = true → ∃ fa fd ps k, X.mg (Str.ofString (t.nm n)) = some (.ref fa) ∧ PySem.W.keepIn X.K (.ref fa) = true ∧ FnG X.prog X.w X.K X.mg X.base k fa fd ps (spFr f ps.length (t.Phi n)) ∧ Room k X.A ∧ Binds X.K fd ps [] ∧ ∀ l st, t.Phi n l st ≠ .bad → l.length = ps.length
  pas : Passes (L2.CX X.prog X.w) X E
  cat : t.hasC = true → CatAt X f t
  lam : t.hasL = true → LamOk X f t
theorem Ok.blk {X : Cx} {f : Cf} {t : Tab} {E : XK} (o : Ok X f t E) (s : Shared) (H : Hp) (scope : Scope) (cenv : PySem.Env) (fp : List Addr) (hq : cenv.qual = X.env.qual) (hco : cenv.code = X.env.code) : Ok (X.blk s H scope cenv fp) f t.noL E0 :=
  ⟨o.hK, o.calm, o.nd, o.grd, o.units, fun n h => ⟨(o.fns n h).ok⟩, o.blt, o.gcd, o.objs, o.cls, o.isi, o.fld, o.mkx, o.mki, o.eqs, o.frs, passL, fun h => by
    obtain ⟨g, cdg, sg, bg, a, n, cs, cAd, P, k, pg, dV, kV, doc, pm, ct, oc, an, od, osl, h1, h2, h3, h4, h5, h6, h7, h8, h9, h10, h11, h12, h13⟩ := o.cat h
    refine ⟨g, cdg, sg, bg, a, n, cs, cAd, P, k, pg, dV, kV, doc, pm, ct, oc, an, od, osl, h1, h2, h3, h4, h5, ⟨h6.body, h6.scope, h6.loc, h6.vis, h6.nd1, h6.nd2⟩, h7, h8, hco.trans h9, ?_, ?_, h12, h13.noL⟩
    · show (P, cenv.qual ++ "<lambda>") ∈ f.c.tabs
      rw [hq]
      exact h10
    · show ∀ p ∈ f.c.tabs, p.1 = P → p.2 = cenv.qual ++ "<lambda>"
      rw [hq]
      exact h11, fun z => nomatch z⟩

section
variable {P : Program} {w : World} {mg : Str → Option Value} {base : Heap} {f : Cf} {t : Tab} {k : Nat}
theorem ExcAt.mono {K : PySem.W.Frag} {en : String} {C : Addr} {names : List String} {j : Nat} (h : ExcAt P w K mg base j en C names) (hk : j ≤ k) : ExcAt P w K mg base k en C names := by
  obtain ⟨fI, fd, ps, h1, h2, h3, h4⟩ := h.init
  exact ⟨h.gl, h.oex, h.nd, fI, fd, ps, h1, h2, h3.mono hk, h4⟩
theorem MkAt.mono {K : PySem.W.Frag} {en : String} {C : Addr} {names kn : List String} {ks : List Nat} {j : Nat} (h : MkAt P w K mg base j en C names kn ks) (hk : j ≤ k) : MkAt P w K mg base k en C names kn ks := by
  obtain ⟨fI, fd, ps, h1, h2, h3, h4⟩ := h.init
  exact ⟨h.gl, h.oex, h.nd, h.ok, fI, fd, ps, h1, h2, h3.mono hk, h4⟩
theorem Base.mono {j : Nat} (B : Base P w mg base f t j) (h : j ≤ k) : Base P w mg base f t k :=
  ⟨fun n hn => by
    obtain ⟨fa, fd, ps, h1, h2, h3, h4, h5⟩ := B.fns n hn
    exact ⟨fa, fd, ps, h1, h2, h3.mono h, h4, h5⟩, B.blt, B.gcd, B.objs, B.cls, B.isi, B.fld, fun n hn => ⟨(B.exc n hn).1.mono h, (B.exc n hn).2⟩, fun n kn ks hn => ⟨(B.mkx n kn ks hn).1.mono h, (B.mkx n kn ks hn).2⟩, fun n hn => let ⟨j, a, b⟩ := B.mki n hn; ⟨j, Nat.le_trans a h, b⟩, fun n hn => let ⟨j, a, b⟩ := B.eqs n hn; ⟨j, Nat.le_trans a h, b⟩, fun n hn => by
    obtain ⟨fa, fd, ps, h1, h2, h3, h4, h5⟩ := B.frs n hn
    exact ⟨fa, fd, ps, h1, h2, h3.mono h, h4, h5⟩⟩
/-- facts of any context over it -/
theorem Base.ok (B : Base P w mg base f t k) {X : Cx} {W : XK} (e1 : X.prog = P) (e2 : X.w = w) (e3 : X.K = f.c.K) (e4 : X.mg = mg) (e5 : X.base = base) (hc : X.calm = true) (hN : X.N.Nodup) (hg : X.A.guards = some []) (hr : Room k X.A) (hr1 : t.hasM = (fun _ _ _ => false) ∨ Room (k + 1) X.A) (hp : Passes (L2.CX X.prog X.w) X W) (hcat : t.hasC = true → CatAt X f t) (hlam : t.hasL = true → LamOk X f t := by intro z; cases z) : Ok X f t W := by
  subst e1 e2 e4 e5
  refine ⟨e3, hc, hN, hg, by have := hr.un; omega, fun n hn => ?_, B.blt, B.gcd, B.objs, B.cls, fun ty d h1 h2 => by rw [e3]; exact B.isi ty d h1 h2, B.fld, fun n kn ks hn => ?_, fun n hn => let ⟨j, a, b⟩ := B.mki n hn; ⟨j, b, hr.mono a⟩, fun n hn => let ⟨j, a, b⟩ := B.eqs n hn; ⟨j, b, hr.mono a⟩, fun n hn => ?_, hp, hcat, hlam⟩
  · obtain ⟨fa, fd, ps, h1, h2, h3, h4, h5⟩ := B.fns n hn
    exact ⟨fa, fd, ps, k, h1, by rw [e3]; exact h2, by rw [e3]; exact h3, hr, by rw [e3]; exact h4, h5⟩
  · rcases hr1 with z | z
    · rw [z] at hn
      cases hn
    · exact ⟨⟨k, (B.mkx n kn ks hn).1, z⟩, (B.mkx n kn ks hn).2⟩
  · obtain ⟨fa, fd, ps, h1, h2, h3, h4, h5⟩ := B.frs n hn
    exact ⟨fa, fd, ps, k, h1, by rw [e3]; exact h2, by rw [e3]; exact h3, hr, by rw [e3]; exact h4, h5⟩
end
end VC
set_option Elab.async false
set_option linter.all false
set_option maxRecDepth 100000
set_option maxHeartbeats 1000000
/-! VCi: expressions, construct by construct. -/
namespace VC
open PySem PySem.Spec PyProof.Rows L2
theorem PEimp {X : Cx} {e : Expr} {t t' : TE} (h : PE X e t) (k : ∀ σ H Q, t' σ H Q → t σ H Q) : PE X e t' := ⟨fun pins s σ H Q I q => h.run pins s σ H Q I (k _ _ _ q)⟩
theorem PTimp {X : Cx} {e : Expr} {t t' : TT} (h : PT X e t) (k : ∀ σ H Q, t' σ H Q → t σ H Q) : PT X e t' := ⟨fun pins s σ H Q I q => h.run pins s σ H Q I (k _ _ _ q)⟩
theorem PAimp {X : Cx} {es : List Expr} {t t' : TA} (h : PA X es t) (k : ∀ σ H Q, t' σ H Q → t σ H Q) : PA X es t' := ⟨fun pos pins s σ H Q I q => h.run pos pins s σ H Q I (k _ _ _ q)⟩
theorem Fin.now {W U : Type} {f : Cf} {E : XK} {rp : RP W U} {H0 H : Hp} {a : U} {st : PenSt} {Q : W → Hp → Prop} {w : W} (h : Fin f E rp H0 H (M.ret a st) Q) (s : Same H0 H) (p : PenAt f.c H0 H st) (r : rp w a H0 H) : Q w H :=
  h w H0 H (.refl s) p r
theorem Fin.some {W U α : Type} {f : Cf} {E : XK} {rp : RP W U} {H0 H : Hp} {o : Option α} {k : α → M U} {st : PenSt} {Q : W → Hp → Prop} (h : Fin f E rp H0 H (M.bind (M.of o) k st) Q) : ∃ a, o = some a ∧ Fin f E rp H0 H (k a st) Q := by
  cases o with
  | none => exact h.elim
  | some a => exact ⟨a, rfl, h⟩
section
variable {X : Cx} {f : Cf} {t : Tab} {E : XK} {x y z : Expr} {a b c : VC.E} {pos : Pos}
abbrev tE (f : Cf) (t : Tab) (W : XK) (e : VC.E) : TE := tM f W (rpE f.c e) (ev t.Phi f.c.F e)
abbrev tB (f : Cf) (t : Tab) (W : XK) (e : VC.E) : TT := tM f W boolP fun ρ => M.bind (ev t.Phi f.c.F e ρ) fun d => M.of (dtruth d)
abbrev tL (f : Cf) (t : Tab) (W : XK) (e : VC.E) : TA := tM f W (rpL f.c e) (evs t.Phi f.c.F e)
theorem Fin.step {W U Y α : Type} {W' : XK} {rp : RP W α} {rq : RP U Y} {H0 H : Hp} {m : M α} {k : α → M Y} {σ : L2.St} {ρ : Env} {st : PenSt} {Q : U → Hp → Prop} {R : W → Hp → Prop} (q : Fin f W' rq H0 H (M.bind m k st) Q) (rel : Rel f.c H0 H σ ρ st)
    (h : ∀ w H1 a st1 G0, Grow f.c H0 H G0 H1 → Rel f.c G0 H1 σ ρ st1 → rp w a G0 H1 → Fin f W' rq G0 H1 (k a st1) Q → R w H1) : Fin f W' rp H0 H (m st) R :=
  (Fin.bind (rp := rp) q).imp fun w H1 ⟨a, s1, G0, g, p, x, y⟩ => h w H1 a s1 G0 g (rel.grow g p) x y
/-- two parts, then an operation by values -/
theorem two_op {W : XK} {ma mb : Env → M D} {ea eb : VC.E} {g : D → D → Option D} {σ : L2.St} {H : Hp} {Q : VK} (h : tM f W (hardP f.c) (fun ρ => M.bind (ma ρ) fun x => M.bind (mb ρ) fun y => M.of (g x y)) σ H Q) :
    tOp (rV2 f.c g) (tM f W (rpE f.c ea) ma) (tM f W (rpE f.c eb) mb) σ H Q := by
  obtain ⟨H0, ρ, st, rel, q⟩ := h
  refine ⟨H0, ρ, st, rel, q.step rel fun w H1 da st1 G0 g rel1 ra q1 => ?_⟩
  refine ⟨G0, ρ, st1, rel1, q1.step rel1 fun u H2 db st2 G1 g2 rel2 rb q2 => ?_⟩
  exact ⟨G1, da, db, rel2.sub, rpE_soft (rpE_mono g2 ra), rpE_soft rb, q2.val rel2.pen⟩
theorem two_cmp {W : XK} {ma mb : Env → M D} {ea eb : VC.E} {g : D → D → Option Bool} {σ : L2.St} {H : Hp} {Q : VK} (h : tM f W (hardP f.c) (fun ρ => M.bind (ma ρ) fun x => M.bind (mb ρ) fun y => M.bind (M.of (g x y)) fun t => M.ret (.bl t)) σ H Q) :
    tOp (rC2 f.c g) (tM f W (rpE f.c ea) ma) (tM f W (rpE f.c eb) mb) σ H Q := by
  obtain ⟨H0, ρ, st, rel, q⟩ := h
  refine ⟨H0, ρ, st, rel, q.step rel fun w H1 da st1 G0 g rel1 ra q1 => ?_⟩
  refine ⟨G0, ρ, st1, rel1, q1.step rel1 fun u H2 db st2 G1 g2 rel2 rb q2 => ?_⟩
  obtain ⟨k, e, q3⟩ := q2.some
  exact ⟨G1, da, db, k, rel2.sub, rpE_soft (rpE_mono g2 ra), rpE_soft rb, e, q3.now rel2.sub rel2.pen (Rep.bl k)⟩
theorem two_cmpT {W : XK} {ma mb : Env → M D} {ea eb : VC.E} {g : D → D → Option Bool} {σ : L2.St} {H : Hp} {Q : Bool → Hp → Prop} (h : tM f W boolP (fun ρ => M.bind (M.bind (ma ρ) fun x => M.bind (mb ρ) fun y => M.bind (M.of (g x y)) fun t => M.ret (.bl t)) fun d => M.of (dtruth d)) σ H Q) :
    tOp (rC2 f.c g) (tM f W (rpE f.c ea) ma) (tM f W (rpE f.c eb) mb) σ H fun v H' => ∃ k, v = .bl k ∧ Q k H' := by
  obtain ⟨H0, ρ, st, rel, q⟩ := h
  simp only [M.bind_bind] at q
  refine ⟨H0, ρ, st, rel, q.step rel fun w H1 da st1 G0 g rel1 ra q1 => ?_⟩
  refine ⟨G0, ρ, st1, rel1, q1.step rel1 fun u H2 db st2 G1 g2 rel2 rb q2 => ?_⟩
  obtain ⟨k, e, q3⟩ := q2.some
  exact ⟨G1, da, db, k, rel2.sub, rpE_soft (rpE_mono g2 ra), rpE_soft rb, e, k, rfl, Fin.now (a := k) q3 rel2.sub rel2.pen rfl⟩
/-- an expression's truth, from the expression -/
theorem truth_of {W : XK} {m : Env → M D} {ea : VC.E} {σ : L2.St} {H : Hp} {Q : Bool → Hp → Prop} (h : tM f W boolP (fun ρ => M.bind (m ρ) fun d => M.of (dtruth d)) σ H Q) :
    tM f W (rpE f.c ea) m σ H fun v H' => ∃ k, TruV f.c.K v H' k ∧ Q k H' := by
  obtain ⟨H0, ρ, st, rel, q⟩ := h
  refine ⟨H0, ρ, st, rel, q.step rel fun w H1 d st1 G0 g rel1 ra q1 => ?_⟩
  cases e : dtruth d with
  | none =>
    rw [e] at q1
    exact q1.elim
  | some k =>
    rw [e] at q1
    exact ⟨k, soft_truth rel1.sub (rpE_soft ra) e, Fin.now (a := k) q1 rel1.sub rel1.pen rfl⟩
theorem pt_of {W : XK} (hK : X.K = f.c.K) (h : PE X x (tE f t W a)) (p : plainTest x = true) : PT X x (tB f t W a) := by
  have h1 := pt_truth h (plain_is p)
  exact PTimp h1 fun σ H Q q => by
    rw [hK]
    exact truth_of q
theorem visB_ok {sc : Scope} {i : Str} (h : visB sc i = true) : Vis sc i := by
  unfold visB at h
  simp only [Bool.or_eq_true, beq_iff_eq] at h
  rcases h with (h | h) | h
  · exact .inl h
  · exact .inr (.inl h)
  · exact .inr (.inr h)
theorem s_var {W : XK} {i : Nat} (o : Ok X f t W) (h : chk X.N f.c.used t (.var i) X.env.scope x = true) : PE X x (tE f t W (.var i)) := by
  unfold chk at h
  split at h
  · unfold varB at h
    simp only [Bool.and_eq_true, Bool.not_eq_true', beq_iff_eq] at h
    obtain ⟨⟨⟨h1, h2⟩, h3⟩, h4⟩ := h
    refine PEimp (pe_var h1 (visB_ok h2) h3 h4) fun σ H Q ⟨H0, ρ, st, rel, q⟩ => ?_
    cases e : ρ[i]? with
    | none =>
      simp only [ev, e] at q
      exact q.elim
    | some r =>
      have hl : i < σ.length := by
        rw [rel.env.len]
        exact (List.getElem?_eq_some_iff.mp e).1
      cases r with
      | val d =>
        simp only [ev, e] at q
        obtain ⟨v, hv, r⟩ := rel.env.slot i _ _ (List.getElem?_eq_getElem hl) e
        exact ⟨v, (List.getElem?_eq_getElem hl).trans (congrArg _ hv), q.now rel.sub rel.pen r⟩
      | no =>
        simp only [ev, e] at q
        exact q.elim
      | own l =>
        simp only [ev, e] at q
        exact q.elim
      | ins n fs =>
        simp only [ev, e] at q
        exact q.elim
  · cases h
theorem s_bor {W : XK} {i : Nat} (o : Ok X f t W) (h : chk X.N f.c.used t (.bor i) X.env.scope x = true) : PE X x (tE f t W (.bor i)) := by
  unfold chk at h
  split at h
  · unfold varB at h
    simp only [Bool.and_eq_true, Bool.not_eq_true', beq_iff_eq] at h
    obtain ⟨⟨⟨h1, h2⟩, h3⟩, h4⟩ := h
    refine PEimp (pe_var h1 (visB_ok h2) h3 h4) fun σ H Q ⟨H0, ρ, st, rel, q⟩ => ?_
    cases e : ρ[i]? with
    | none =>
      simp only [ev, e] at q
      exact q.elim
    | some r =>
      have hl : i < σ.length := by
        rw [rel.env.len]
        exact (List.getElem?_eq_some_iff.mp e).1
      cases r with
      | own d =>
        simp only [ev, e] at q
        obtain ⟨v, hv, r⟩ := rel.env.slot i _ _ (List.getElem?_eq_getElem hl) e
        exact ⟨v, (List.getElem?_eq_getElem hl).trans (congrArg _ hv), q.now (rp := rpE f.c (.bor i)) rel.sub rel.pen (show softP f.c v (.lst d) H0 H from .inr r)⟩
      | no =>
        simp only [ev, e] at q
        exact q.elim
      | val d =>
        simp only [ev, e] at q
        obtain ⟨v, hv, r⟩ := rel.env.slot i _ _ (List.getElem?_eq_getElem hl) e
        exact ⟨v, (List.getElem?_eq_getElem hl).trans (congrArg _ hv), q.now (rp := rpE f.c (.bor i)) rel.sub rel.pen (show softP f.c v d H0 H from .inl r)⟩
      | ins n fs =>
        simp only [ev, e] at q
        exact q.elim
  · cases h
theorem const_ok {W : XK} {e : VC.E} {d : D} {v : V} (n : isBor e = false) (he : ∀ ρ, ev t.Phi f.c.F e ρ = M.ret d) (hv : ∀ H0, Rep f.c H0 v d) (h : PE X x (tC v)) : PE X x (tE f t W e) :=
  PEimp h fun σ H Q ⟨H0, ρ, st, rel, q⟩ => by
    rw [he ρ, rpE_eq n] at q
    exact q.now rel.sub rel.pen (hv H0)
theorem s_bin {W : XK} {o : Op2} (k : Ok X f t W) (ha : PE X x (tE f t W a)) (hb : PE X y (tE f t W b)) : PE X (.BinOp x (opOf o) y pos) (tE f t W (.bin o a b)) :=
  PEimp (pe_op (op_d2 k.hK o) ha hb) fun σ H Q h => by
    unfold tE at h
    rw [rpE_eq rfl] at h
    exact two_op (g := d2 o) h
end
end VC
set_option Elab.async false
set_option linter.all false
set_option maxRecDepth 100000
set_option maxHeartbeats 1000000
/-! VCj: expressions, construct by construct (2). -/
namespace VC
open PySem PySem.Spec PyProof.Rows L2
def elen : VC.E → Nat
  | .cons _ r => elen r + 1
  | _ => 0
theorem rpL_len {c : Cfg} : ∀ {r : VC.E} {vs : List V} {ds : List D} {H0 H : Hp}, rpL c r vs ds H0 H → vs.length = elen r := by
  intro r
  induction r with
  | cons a r _ ih =>
    intro vs ds H0 H h
    obtain ⟨v, vr, d, dr, rfl, rfl, _, h2⟩ := h
    rw [List.length_cons, ih h2]
    rfl
  | _ =>
    intro vs ds H0 H h
    obtain ⟨rfl, _⟩ := h
    rfl
section
variable {X : Cx} {f : Cf} {t : Tab} {W : XK} {x y z : Expr} {es : List Expr} {a b c r : VC.E} {pos : Pos}
theorem s_tup {k : Nat} (h : PA X es (tL f t W r)) (hr : hards r = true) (hz : elen r ≤ 1000) : PE X (.Tuple es k pos) (tE f t W (.tup r)) :=
  PEimp (pe_tup h) fun σ H Q h => by
    unfold tE at h
    rw [rpE_eq rfl] at h
    obtain ⟨H0, ρ, st, rel, q⟩ := h
    refine ⟨H0, ρ, st, rel, q.step rel fun vs H1 ds st1 G0 g rel1 ra q1 => ?_⟩
    have hl : vs.length ≤ sizeLine := size_le (by rw [rpL_len ra]; omega)
    exact ⟨hl, fun p np => q1 (.ref p) (upd G0 p (.tup vs)) _ (.new rel1.sub np) (rel1.pen.new rel1.sub np) (.newT (rel1.sub.free np) hl (rpL_hard hr ra))⟩
theorem s_lst (h : PA X es (tL f t W r)) (hr : hards r = true) (hz : elen r ≤ 1000) : PE X (.List es pos) (tE f t W (.lst r)) :=
  PEimp (pe_lst h) fun σ H Q h => by
    unfold tE at h
    rw [rpE_eq rfl] at h
    obtain ⟨H0, ρ, st, rel, q⟩ := h
    refine ⟨H0, ρ, st, rel, q.step rel fun vs H1 ds st1 G0 g rel1 ra q1 => ?_⟩
    have hl : vs.length ≤ sizeLine := size_le (by rw [rpL_len ra]; omega)
    exact ⟨hl, fun p np => q1 (.ref p) (upd G0 p (.lst vs)) _ (.new rel1.sub np) (rel1.pen.new rel1.sub np) (.newL (rel1.sub.free np) hl (rpL_hard hr ra))⟩
theorem s_nil : PA X [] (tL f t W .nil) := PAimp pa_nil fun σ H Q ⟨H0, ρ, st, rel, q⟩ => Fin.now (a := []) q rel.sub rel.pen ⟨rfl, rfl⟩
theorem s_cons (ha : PE X x (tE f t W a)) (hr : PA X es (tL f t W r)) (n : notStar x = true) : PA X (x :: es) (tL f t W (.cons a r)) :=
  PAimp (pa_cons ha hr (star_cons n)) fun σ H Q ⟨H0, ρ, st, rel, q⟩ => by
    simp only [evs] at q
    refine ⟨H0, ρ, st, rel, q.step rel fun v H1 d st1 G0 g rel1 ra q1 => ?_⟩
    refine ⟨G0, ρ, st1, rel1, q1.step rel1 fun vs H2 ds st2 G1 g2 rel2 rb q2 => ?_⟩
    exact Fin.now (a := d :: ds) q2 rel2.sub rel2.pen ⟨_, _, _, _, rfl, rfl, rpE_mono g2 ra, rb⟩
theorem s_neg (ha : PE X x (tE f t W a)) : PE X (.UnaryOp .USub x pos) (tE f t W (.neg a)) :=
  PEimp (pe_un un_neg ha) fun σ H Q h => by
    unfold tE at h
    rw [rpE_eq rfl] at h
    obtain ⟨H0, ρ, st, rel, q⟩ := h
    simp only [ev] at q
    refine ⟨H0, ρ, st, rel, q.step rel fun v H1 d st1 G0 g rel1 ra q1 => ?_⟩
    cases d with
    | int i => exact ⟨i, soft_int (rpE_soft ra), Fin.now (a := D.int (-i)) q1 rel1.sub rel1.pen (.int _)⟩
    | _ => exact q1.elim
theorem s_no (hK : X.K = f.c.K) (ha : PE X x (tE f t W a)) : PE X (.UnaryOp .Not x pos) (tE f t W (.no a)) :=
  PEimp (pe_notT ha) fun σ H Q h => by
    unfold tE at h
    rw [rpE_eq rfl] at h
    obtain ⟨H0, ρ, st, rel, q⟩ := h
    simp only [ev] at q
    rw [hK]
    refine ⟨H0, ρ, st, rel, q.step rel fun v H1 d st1 G0 g rel1 ra q1 => ?_⟩
    obtain ⟨k, e, q2⟩ := q1.some
    exact ⟨k, soft_truth rel1.sub (rpE_soft ra) e, Fin.now (a := D.bl (!k)) q2 rel1.sub rel1.pen (.bl _)⟩
theorem s_cmp {o : Cmp} (k : Ok X f t W) (hm : behindInMarks (cmpOf o) y = false) (ha : PE X x (tE f t W a)) (hb : PE X y (tE f t W b)) : PE X (.Compare x [cmpOf o] [y] pos) (tE f t W (.cmp o a b)) :=
  PEimp (pe_cmpR (cmp_ok k.hK k.units o) ha hb hm) fun σ H Q h => by
    unfold tE at h
    rw [rpE_eq rfl] at h
    exact two_cmp (g := dcmp o) h
theorem t_cmp {o : Cmp} (k : Ok X f t W) (hm : behindInMarks (cmpOf o) y = false) (ha : PE X x (tE f t W a)) (hb : PE X y (tE f t W b)) : PT X (.Compare x [cmpOf o] [y] pos) (tB f t W (.cmp o a b)) :=
  PTimp (pt_cmpR (cmp_ok k.hK k.units o) ha hb hm) fun σ H Q h => two_cmpT (g := dcmp o) h
theorem last_ok {o p : CmpOp} {u v : Expr} (h2 : (p == .In || p == .NotIn) = false) : lastMarks [o, p] [u, v] = false := by
  show behindInMarks p v = false
  cases v <;> simp [behindInMarks, h2]
theorem three_cmp {ma mb mc : PySem.Env → Nat} : True := trivial
theorem s_chain {o p : Cmp} (k : Ok X f t W) (h2 : (cmpOf p == .In || cmpOf p == .NotIn) = false) (ha : PE X x (tE f t W a)) (hb : PE X y (tE f t W b)) (hc : PE X z (tE f t W c)) : PE X (.Compare x [cmpOf o, cmpOf p] [y, z] pos) (tE f t W (.chain o p a b c)) :=
  PEimp (pe_chain (cmp_ok k.hK k.units o) (cmp_ok k.hK k.units p) ha hb hc (last_ok h2)) fun σ H Q h => by
    unfold tE at h
    rw [rpE_eq rfl] at h
    obtain ⟨H0, ρ, st, rel, q⟩ := h
    simp only [ev] at q
    refine ⟨H0, ρ, st, rel, q.step rel fun w H1 da st1 G0 g rel1 ra q1 => ?_⟩
    refine ⟨G0, ρ, st1, rel1, q1.step rel1 fun u H2 db st2 G1 g2 rel2 rb q2 => ?_⟩
    obtain ⟨i, e, q3⟩ := q2.some
    refine ⟨G1, da, db, i, rel2.sub, rpE_soft (rpE_mono g2 ra), rpE_soft rb, e, i, rfl, ?_⟩
    cases i with
    | false =>
      exact Fin.now (a := D.bl false) q3 rel2.sub rel2.pen (.bl _)
    | true =>
      refine ⟨G1, ρ, st2, rel2, Fin.step (k := fun z => .bind (.of (dcmp p db z)) fun u => .ret (D.bl u)) q3 rel2 fun v H3 dc st3 G2 g3 rel3 rc q4 => ?_⟩
      obtain ⟨j, e2, q5⟩ := q4.some
      exact ⟨G2, db, dc, j, rel3.sub, rpE_soft (rpE_mono g3 rb), rpE_soft rc, e2, Fin.now (a := D.bl j) q5 rel3.sub rel3.pen (.bl _)⟩
theorem t_chain {o p : Cmp} (k : Ok X f t W) (h2 : (cmpOf p == .In || cmpOf p == .NotIn) = false) (ha : PE X x (tE f t W a)) (hb : PE X y (tE f t W b)) (hc : PE X z (tE f t W c)) : PT X (.Compare x [cmpOf o, cmpOf p] [y, z] pos) (tB f t W (.chain o p a b c)) :=
  PTimp (pt_chain (cmp_ok k.hK k.units o) (cmp_ok k.hK k.units p) ha hb hc (last_ok h2)) fun σ H Q h => by
    obtain ⟨H0, ρ, st, rel, q⟩ := h
    simp only [ev, M.bind_bind] at q
    refine ⟨H0, ρ, st, rel, q.step rel fun w H1 da st1 G0 g rel1 ra q1 => ?_⟩
    refine ⟨G0, ρ, st1, rel1, q1.step rel1 fun u H2 db st2 G1 g2 rel2 rb q2 => ?_⟩
    obtain ⟨i, e, q3⟩ := q2.some
    refine ⟨G1, da, db, i, rel2.sub, rpE_soft (rpE_mono g2 ra), rpE_soft rb, e, i, rfl, ?_⟩
    cases i with
    | false =>
      exact ⟨false, rfl, Fin.now (a := false) q3 rel2.sub rel2.pen rfl⟩
    | true =>
      have q3' : Fin f W boolP G1 H2 (M.bind (ev t.Phi f.c.F c ρ) (fun z => .bind (.of (dcmp p db z)) fun u => .ret u) st2) Q := by
        simp only [if_true, M.bind_bind] at q3
        exact q3
      refine ⟨G1, ρ, st2, rel2, q3'.step rel2 fun v H3 dc st3 G2 g3 rel3 rc q4 => ?_⟩
      obtain ⟨j, e2, q5⟩ := q4.some
      exact ⟨G2, db, dc, j, rel3.sub, rpE_soft (rpE_mono g3 rb), rpE_soft rc, e2, j, rfl, Fin.now (a := j) q5 rel3.sub rel3.pen rfl⟩
/-! ### and, or, not, if else -/
theorem ev_andB (Φ : Fns) (F : Flds) (ρ : Env) : M.bind (ev Φ F (.and a b) ρ) (fun d => .of (dtruth d)) = M.bind (M.bind (ev Φ F a ρ) fun d => .of (dtruth d)) fun i => if i then M.bind (ev Φ F b ρ) fun d => .of (dtruth d) else .ret false := by
  simp only [ev, M.bind_bind]
  congr 1
  funext d
  cases e : dtruth d with
  | none => rfl
  | some i => cases i <;> simp [e]
theorem ev_orB (Φ : Fns) (F : Flds) (ρ : Env) : M.bind (ev Φ F (.or a b) ρ) (fun d => .of (dtruth d)) = M.bind (M.bind (ev Φ F a ρ) fun d => .of (dtruth d)) fun i => if i then .ret true else M.bind (ev Φ F b ρ) fun d => .of (dtruth d) := by
  simp only [ev, M.bind_bind]
  congr 1
  funext d
  cases e : dtruth d with
  | none => rfl
  | some i => cases i <;> simp [e]
theorem ev_noB (Φ : Fns) (F : Flds) (ρ : Env) : M.bind (ev Φ F (.no a) ρ) (fun d => .of (dtruth d)) = M.bind (M.bind (ev Φ F a ρ) fun d => .of (dtruth d)) fun i => .ret (!i) := by
  simp only [ev, M.bind_bind]
  congr 1
theorem ev_iteB (Φ : Fns) (F : Flds) (ρ : Env) : M.bind (ev Φ F (.ite c a b) ρ) (fun d => .of (dtruth d)) = M.bind (M.bind (ev Φ F c ρ) fun d => .of (dtruth d)) fun i => if i then M.bind (ev Φ F a ρ) fun d => .of (dtruth d) else M.bind (ev Φ F b ρ) fun d => .of (dtruth d) := by
  simp only [ev, M.bind_bind]
  congr 1
  funext d
  cases e : dtruth d with
  | none => rfl
  | some i => cases i <;> rfl
theorem ev_iteE (Φ : Fns) (F : Flds) (ρ : Env) : ev Φ F (.ite c a b) ρ = M.bind (M.bind (ev Φ F c ρ) fun d => .of (dtruth d)) fun i => if i then ev Φ F a ρ else ev Φ F b ρ := by
  simp only [ev, M.bind_bind]
theorem t_and {ms : Env → M Bool} {mt : Env → M Bool} {σ : L2.St} {H : Hp} {Q : Bool → Hp → Prop} (h : tM f W boolP (fun ρ => M.bind (ms ρ) fun i => if i then mt ρ else .ret false) σ H Q) : tAnd (tM f W boolP ms) (tM f W boolP mt) σ H Q := by
  obtain ⟨H0, ρ, st, rel, q⟩ := h
  refine ⟨H0, ρ, st, rel, q.step rel fun w H1 i st1 G0 g rel1 ra q1 => ?_⟩
  cases ra
  cases w with
  | false => exact Fin.now (a := false) q1 rel1.sub rel1.pen rfl
  | true => exact ⟨G0, ρ, st1, rel1, q1⟩
theorem t_or {ms : Env → M Bool} {mt : Env → M Bool} {σ : L2.St} {H : Hp} {Q : Bool → Hp → Prop} (h : tM f W boolP (fun ρ => M.bind (ms ρ) fun i => if i then .ret true else mt ρ) σ H Q) : tOr (tM f W boolP ms) (tM f W boolP mt) σ H Q := by
  obtain ⟨H0, ρ, st, rel, q⟩ := h
  refine ⟨H0, ρ, st, rel, q.step rel fun w H1 i st1 G0 g rel1 ra q1 => ?_⟩
  cases ra
  cases w with
  | true => exact Fin.now (a := true) q1 rel1.sub rel1.pen rfl
  | false => exact ⟨G0, ρ, st1, rel1, q1⟩
theorem t_not {ms : Env → M Bool} {σ : L2.St} {H : Hp} {Q : Bool → Hp → Prop} (h : tM f W boolP (fun ρ => M.bind (ms ρ) fun i => .ret (!i)) σ H Q) : tNot (tM f W boolP ms) σ H Q := by
  obtain ⟨H0, ρ, st, rel, q⟩ := h
  refine ⟨H0, ρ, st, rel, q.step rel fun w H1 i st1 G0 g rel1 ra q1 => ?_⟩
  subst ra
  exact Fin.now (a := !w) q1 rel1.sub rel1.pen rfl
/-- as tests -/
theorem w_and {rest : List Expr} (ha : PT X x (tB f t W a)) (hb : PW X (.BoolOp .And (y :: rest) pos) (tB f t W b)) : PW X (.BoolOp .And (x :: y :: rest) pos) (tB f t W (.and a b)) :=
  ⟨fun wh pins s σ H Q I h => (pw_and ha hb).run wh pins s σ H Q I (t_and (by
    obtain ⟨H0, ρ, st, rel, q⟩ := h
    simp only [ev_andB] at q
    exact ⟨H0, ρ, st, rel, q⟩))⟩
theorem w_or {rest : List Expr} (ha : PT X x (tB f t W a)) (hb : PW X (.BoolOp .Or (y :: rest) pos) (tB f t W b)) : PW X (.BoolOp .Or (x :: y :: rest) pos) (tB f t W (.or a b)) :=
  ⟨fun wh pins s σ H Q I h => (pw_or ha hb).run wh pins s σ H Q I (t_or (by
    obtain ⟨H0, ρ, st, rel, q⟩ := h
    simp only [ev_orB] at q
    exact ⟨H0, ρ, st, rel, q⟩))⟩
theorem t_no (ha : PT X x (tB f t W a)) : PT X (.UnaryOp .Not x pos) (tB f t W (.no a)) :=
  PTimp (pt_not ha) fun σ H Q ⟨H0, ρ, st, rel, q⟩ => t_not (by
    simp only [ev_noB] at q
    exact ⟨H0, ρ, st, rel, q⟩)
theorem t_ite (hc : PT X z (tB f t W c)) (ha : PT X x (tB f t W a)) (hb : PT X y (tB f t W b)) : PT X (.IfExp z x y pos) (tB f t W (.ite c a b)) := by
  refine ⟨fun pins s σ H Q I h => ?_⟩
  obtain ⟨H0, ρ, st, rel, q⟩ := h
  simp only [ev_iteB] at q
  refine PyProof.Rows.isTrue_IfExp (thn (hc.run pins s σ H (fun i H1 => if i = true then tB f t W a σ H1 Q else tB f t W b σ H1 Q) I ⟨H0, ρ, st, rel, q.step rel fun w H1 i st1 G0 g rel1 ra q1 => ?_⟩) fun i s1 ⟨H1, I1, q1⟩ => ?_)
  · cases ra
    cases w with
    | true => exact ⟨G0, ρ, st1, rel1, q1⟩
    | false => exact ⟨G0, ρ, st1, rel1, q1⟩
  · cases i with
    | true => exact ha.run pins s1 σ H1 Q I1 q1
    | false => exact hb.run pins s1 σ H1 Q I1 q1
theorem s_ite (na : isBor a = false) (nb : isBor b = false) (hc : PT X z (tB f t W c)) (ha : PE X x (tE f t W a)) (hb : PE X y (tE f t W b)) : PE X (.IfExp z x y pos) (tE f t W (.ite c a b)) :=
  PEimp (pe_ifExp hc ha hb) fun σ H Q h => by
    unfold tE at h
    rw [rpE_eq rfl] at h
    obtain ⟨H0, ρ, st, rel, q⟩ := h
    simp only [ev_iteE] at q
    refine ⟨H0, ρ, st, rel, q.step rel fun w H1 i st1 G0 g rel1 ra q1 => ?_⟩
    subst ra
    cases w with
    | true => exact ⟨G0, ρ, st1, rel1, by rw [rpE_eq na]; exact q1⟩
    | false => exact ⟨G0, ρ, st1, rel1, by rw [rpE_eq nb]; exact q1⟩
theorem s_and {rest : List Expr} (hK : X.K = f.c.K) (na : isBor a = false) (nb : isBor b = false) (ha : PE X x (tE f t W a)) (hb : PE X (.BoolOp .And (y :: rest) pos) (tE f t W b)) : PE X (.BoolOp .And (x :: y :: rest) pos) (tE f t W (.and a b)) :=
  PEimp (pe_andT ha hb) fun σ H Q h => by
    unfold tE at h
    rw [rpE_eq rfl] at h
    obtain ⟨H0, ρ, st, rel, q⟩ := h
    simp only [ev] at q
    rw [hK]
    refine ⟨H0, ρ, st, rel, q.step rel fun v H1 d st1 G0 g rel1 ra q1 => ?_⟩
    obtain ⟨k, e, q2⟩ := q1.some
    refine ⟨k, soft_truth rel1.sub (rpE_soft ra) e, ?_⟩
    cases k with
    | true => exact ⟨G0, ρ, st1, rel1, by rw [rpE_eq nb]; exact q2⟩
    | false => exact Fin.now (a := d) q2 rel1.sub rel1.pen (rpE_hard na ra)
theorem s_or {rest : List Expr} (hK : X.K = f.c.K) (na : isBor a = false) (nb : isBor b = false) (ha : PE X x (tE f t W a)) (hb : PE X (.BoolOp .Or (y :: rest) pos) (tE f t W b)) : PE X (.BoolOp .Or (x :: y :: rest) pos) (tE f t W (.or a b)) :=
  PEimp (pe_orT ha hb) fun σ H Q h => by
    unfold tE at h
    rw [rpE_eq rfl] at h
    obtain ⟨H0, ρ, st, rel, q⟩ := h
    simp only [ev] at q
    rw [hK]
    refine ⟨H0, ρ, st, rel, q.step rel fun v H1 d st1 G0 g rel1 ra q1 => ?_⟩
    obtain ⟨k, e, q2⟩ := q1.some
    refine ⟨k, soft_truth rel1.sub (rpE_soft ra) e, ?_⟩
    cases k with
    | true => exact Fin.now (a := d) q2 rel1.sub rel1.pen (rpE_hard na ra)
    | false => exact ⟨G0, ρ, st1, rel1, by rw [rpE_eq nb]; exact q2⟩
/-! ### subscripts, slices, fields -/
theorem s_ix (k : Ok X f t W) (n : notSlice y = true) (ha : PE X x (tE f t W a)) (hb : PE X y (tE f t W b)) : PE X (.Subscript x y pos) (tE f t W (.ix a b)) :=
  PEimp (pe_ix (ix_ok k.hK) ha hb (ix_plain n)) fun σ H Q h => by
    unfold tE at h
    rw [rpE_eq rfl] at h
    exact two_op (g := dix) h
abbrev tO (f : Cf) (t : Tab) (W : XK) (e : VC.E) : TO := tM f W (fun w a _ _ => w = a) (evo t.Phi f.c.F e)
theorem POimp {X : Cx} {e : Option Expr} {u u' : TO} (h : PO X e u) (k : ∀ σ H Q, u' σ H Q → u σ H Q) : PO X e u' := ⟨fun pins s σ H Q I q => h.run pins s σ H Q I (k _ _ _ q)⟩
theorem o_nil : PO X none (tO f t W .nil) := POimp po_none fun σ H Q ⟨H0, ρ, st, rel, q⟩ => Fin.now (a := none) q rel.sub rel.pen rfl
theorem o_cons (h : PE X x (tE f t W a)) : PO X (some x) (tO f t W (.cons a r)) := POimp (po_some h) fun σ H Q ⟨H0, ρ, st, rel, q⟩ => by
  simp only [evo] at q
  refine ⟨H0, ρ, st, rel, q.step rel fun v H1 d st1 G0 g rel1 ra q1 => ?_⟩
  cases d with
  | int i => exact ⟨i, soft_int (rpE_soft ra), Fin.now (a := some i) q1 rel1.sub rel1.pen rfl⟩
  | _ => exact q1.elim
theorem s_sl {l u : VC.E} {lo hi : Option Expr} {p2 : Pos} (k : Ok X f t W) (ha : PE X x (tE f t W a)) (hl : PO X lo (tO f t W l)) (hu : PO X hi (tO f t W u)) : PE X (.Subscript x (.Slice lo hi none p2) pos) (tE f t W (.sl a l u)) :=
  PEimp (pe_slice (sl_ok k.hK) ha hl hu) fun σ H Q h => by
    unfold tE at h
    rw [rpE_eq rfl] at h
    obtain ⟨H0, ρ, st, rel, q⟩ := h
    simp only [ev] at q
    refine ⟨H0, ρ, st, rel, q.step rel fun v H1 d st1 G0 g rel1 ra q1 => ?_⟩
    refine ⟨G0, ρ, st1, rel1, q1.step rel1 fun i H2 i' st2 G1 g2 rel2 rb q2 => ?_⟩
    refine ⟨G1, ρ, st2, rel2, q2.step rel2 fun j H3 j' st3 G2 g3 rel3 rc q3 => ?_⟩
    subst rb rc
    refine ⟨G2, d, rel3.sub, rpE_soft (rpE_mono g3 (rpE_mono g2 ra)), ?_⟩
    refine Fin.val (E := W) (st := st3) rel3.pen ?_
    unfold dsl
    cases d <;> first | exact q3 | exact q3.elim
theorem idx_get {l : List String} {g : String} {j : Nat} (h : l.idxOf? g = some j) : l[j]? = some g := by
  induction l generalizing j with
  | nil => simp at h
  | cons a l ih =>
    rw [List.idxOf?_cons] at h
    split at h
    · rename_i e
      cases h
      simp only [beq_iff_eq] at e
      subst e
      rfl
    · cases e : l.idxOf? g with
      | none =>
        rw [e] at h
        cases h
      | some i =>
        rw [e] at h
        cases h
        simpa using ih e
theorem s_fld {g : String} {id : Str} (k : Ok X f t W) (n : isBor a = false) (e : id = Str.ofString g) (hb : notSuper x = true) (ha : PE X x (tE f t W a)) : PE X (.Attribute x id pos) (tE f t W (.fld a g)) := by
  subst e
  cases hxs : f.c.xs with
  | false =>
    exact PEimp (pe_fld ha (base_is hb)) fun σ H Q h => by
      unfold tE at h
      rw [rpE_eq rfl] at h
      obtain ⟨H0, ρ, st, rel, q⟩ := h
      simp only [ev] at q
      refine ⟨H0, ρ, st, rel, q.step rel fun v H1 d st1 G0 gr rel1 ra q1 => ?_⟩
      have ra := rpE_hard n ra
      cases ra with
      | @obj p dx fs m vs ds _ h hu fl rs =>
        unfold fieldAt at q1
        cases e : ((f.c.F m).idxOf? g) with
        | none =>
          simp only [e] at q1
          exact q1.elim
        | some j =>
          simp only [e, Option.bind_some] at q1
          cases e2 : ds[j]? with
          | none =>
            rw [e2] at q1
            exact q1.elim
          | some dj =>
            rw [e2] at q1
            obtain ⟨w, hw, rw'⟩ := rs.get e2
            have hg := idx_get e
            rcases k.objs m with o | o
            · rw [if_neg (by rw [hxs]; decide)] at o
              refine ⟨p, _, dx, fs, w, rfl, rel1.sub _ _ h, by rw [k.hK]; exact o.cl, by rw [k.hK]; exact k.fld m g hu (List.mem_of_getElem? hg), fl.2 j g w hg hw, ?_⟩
              exact Fin.now (a := dj) q1 rel1.sub rel1.pen rw'
            · rw [hu] at o
              cases o
      | exc z _ _ _ _ _ => rw [hxs] at z; cases z
      | exc0 z _ _ _ => rw [hxs] at z; cases z
      | _ => exact q1.elim
  | true =>
    exact PEimp (pe_fldX ha (base_is hb)) fun σ H Q h => by
      unfold tE at h
      rw [rpE_eq rfl] at h
      obtain ⟨H0, ρ, st, rel, q⟩ := h
      simp only [ev] at q
      refine ⟨H0, ρ, st, rel, q.step rel fun v H1 d st1 G0 gr rel1 ra q1 => ?_⟩
      have ra := rpE_hard n ra
      cases ra with
      | @exc p dx fs m vs ds _ h hd hu fl rs =>
        unfold fieldAt at q1
        cases e : ((f.c.F m).idxOf? g) with
        | none =>
          simp only [e] at q1
          exact q1.elim
        | some j =>
          simp only [e, Option.bind_some] at q1
          cases e2 : ds[j]? with
          | none =>
            rw [e2] at q1
            exact q1.elim
          | some dj =>
            rw [e2] at q1
            obtain ⟨w, hw, rw'⟩ := rs.get e2
            have hg := idx_get e
            rcases k.objs m with o | o
            · rw [if_pos hxs] at o
              refine ⟨p, _, dx, fs, w, rfl, rel1.sub _ _ h, rel1.sub _ _ hd, by rw [k.hK]; exact o, by rw [k.hK]; exact k.fld m g hu (List.mem_of_getElem? hg), fl.2 j g w hg hw, ?_⟩
              exact Fin.now (a := dj) q1 rel1.sub rel1.pen rw'
            · rw [hu] at o
              cases o
      | @exc0 p m _ h hu hf =>
        unfold fieldAt at q1
        have e : (f.c.F m).idxOf? g = none := by rw [hf]; rfl
        simp only [e] at q1
        exact q1.elim
      | obj z _ _ _ _ => rw [hxs] at z; cases z
      | _ => exact q1.elim
end
end VC
set_option Elab.async false
set_option linter.all false
set_option maxRecDepth 100000
set_option maxHeartbeats 1000000
/-! VCk: calls. -/
namespace VC
open PySem PySem.Spec PyProof.Rows L2
section
variable {X : Cx} {f : Cf} {t : Tab} {W : XK} {x y z : Expr} {es : List Expr} {a b c r : VC.E} {p pos : Pos} {id : Str}
theorem s_call {n : Nat} (k : Ok X f t W) (hn : t.has n = true) (hg : Gl X id) (he : id = Str.ofString (t.nm n)) (hd : (id == ("__debug__" : Str)) = false) (hr : hards r = true) (hs : (x :: es).all notStar = true) (ha : PA X (x :: es) (tL f t W r)) :
    PE X (.Call (.Name id p) (x :: es) [] pos) (tE f t W (.call n r)) := by
  subst he
  obtain ⟨fa, fd, ps, lv, hm, hk, F, hl, hb, hz⟩ := (k.fns n hn).ok
  refine ⟨fun pins s σ H Q I h => ?_⟩
  unfold tE at h
  rw [rpE_eq rfl] at h
  obtain ⟨H0, ρ, st, rel, q⟩ := h
  simp only [ev] at q
  simp only [List.all_cons, Bool.and_eq_true] at hs
  refine wpAny_Call_Name_kw (ld_glob I hg hm ?_ hd)
  refine PySem.W.callWith_K (h₀ := X.base) I.ok.mod.kin hk (thn (ha.run pos pins s σ H (fun vs H1 => ∃ ds st1 G0, Rel f.c G0 H1 σ ρ st1 ∧ Reps f.c G0 vs ds ∧ Fin f W (hardP f.c) G0 H1 (t.Phi n ds st1) Q) I ⟨H0, ρ, st, rel, q.step rel fun vs H1 ds st1 G0 g rel1 ra q1 => ⟨ds, st1, G0, rel1, rpL_hard hr ra, q1⟩⟩) fun us s1 ⟨vs, H1, I1, rv, ds, st1, G0, rel1, ra, q1⟩ => ⟨I1.kIn, ?_⟩) (star_cons hs.1) (star_any hs.2)
  have hne : t.Phi n ds st1 ≠ .bad := fun e => by
    rw [e] at q1
    exact q1
  have hlen : us.length = ps.length := by
    rw [← rv.length, ra.length]
    exact hz ds st1 hne
  refine wpAny_call (codeAny_mono (F.run X.A X.stack s1 H1 ⟨us, []⟩ us vs Q W k.grd hl I1.env0 ?_ rv ⟨G0, ds, st1, rel1.sub, rel1.pen, ra, by rw [rv.length]; exact hlen, q1⟩) fun r s' hq => ?_)
  · have := hb s1 us I1.kIn (by rw [List.append_nil]; exact hlen)
    rw [List.append_nil] at this
    exact this
  cases r with
  | error e => exact k.pas pins σ H1 s1 e s' I1 hq
  | ok fl =>
    cases fl with
    | ret u => exact I1.after hq
    | next => exact False.elim hq
    | brk => exact False.elim hq
    | cont => exact False.elim hq
theorem vn_of {g : List D → Option D} {σ : L2.St} {H : Hp} {Q : VK} (h : tM f W (hardP f.c) (fun ρ => M.bind (evs t.Phi f.c.F r ρ) fun l => M.of (g l)) σ H Q) : tCB (rVn f.c g) (tL f t W r) σ H Q := by
  obtain ⟨H0, ρ, st, rel, q⟩ := h
  exact ⟨H0, ρ, st, rel, q.step rel fun vs H1 ds st1 G0 g rel1 ra q1 => ⟨G0, ds, rel1.sub, rpL_soft ra, q1.val rel1.pen⟩⟩
def simpleB : BI → Bool
  | .isi _ => false
  | .bits => false
  | .gcd => false
  | _ => true
theorem s_bi {g : BI} (k : Ok X f t W) (hg : Gl X id) (he : id = Str.ofString (biName g)) (hb : simpleB g = true) (hs : (x :: es).all notStar = true) (ha : PA X (x :: es) (tL f t W r)) :
    PE X (.Call (.Name id p) (x :: es) [] pos) (tE f t W (.bi g r)) := by
  subst he
  simp only [List.all_cons, Bool.and_eq_true] at hs
  have e1 : starEach (x :: es) X.env = (false, eval x X.env) :: starEach es X.env := star_cons hs.1
  have e2 : (backTo pos (starEach es X.env)).any (·.1) = false := star_any hs.2
  have fin : ∀ {h : List D → Option D}, dbi g = h → PE X (.Call (.Name (Str.ofString (biName g)) p) (x :: es) [] pos) (tCB (rVn f.c h) (tL f t W r)) → PE X (.Call (.Name (Str.ofString (biName g)) p) (x :: es) [] pos) (tE f t W (.bi g r)) := fun {h} hh P =>
    PEimp P fun σ H Q hq => vn_of (by
      unfold tE at hq
      rw [rpE_eq rfl] at hq
      subst hh
      simp only [ev] at hq
      exact hq)
  have bl := k.blt
  cases g <;> simp only [simpleB, Bool.false_eq_true] at hb
  · exact fin rfl (pe_callB (cb_len k.hK) hg (bl "len" (by decide)) boot_len ha (by decide) (by decide) e1 e2)
  · exact fin rfl (pe_callB (cb_all k.calm) hg (bl "all" (by decide)) boot_all ha (by decide) (by decide) e1 e2)
  · exact fin rfl (pe_callB (cb_any k.calm) hg (bl "any" (by decide)) boot_any ha (by decide) (by decide) e1 e2)
  · exact fin rfl (pe_callB (cb_sum k.calm) hg (bl "sum" (by decide)) boot_sum ha (by decide) (by decide) e1 e2)
  · exact fin rfl (pe_callB (cb_max k.hK k.calm) hg (bl "max" (by decide)) boot_max ha (by decide) (by decide) e1 e2)
  · exact fin rfl (pe_callB (cb_min k.hK k.calm) hg (bl "min" (by decide)) boot_min ha (by decide) (by decide) e1 e2)
  · exact fin rfl (pe_callB cb_abs hg (bl "abs" (by decide)) boot_abs ha (by decide) (by decide) e1 e2)
  · exact fin rfl (pe_callTy cb_int hg (bl "int" (by decide)) boot_int ha (by decide) (by decide) e1 e2)
  · exact fin rfl (pe_callB (cb_repr k.hK k.grd k.units) hg (bl "repr" (by decide)) boot_repr ha (by decide) (by decide) e1 e2)
  · exact fin rfl (pe_callTy (cb_tuple k.hK) hg (bl "tuple" (by decide)) boot_tuple ha (by decide) (by decide) e1 e2)
  · exact fin rfl (pe_callTy (cb_list k.hK) hg (bl "list" (by decide)) boot_list ha (by decide) (by decide) e1 e2)
  · exact fin rfl (pe_callB (cb_sorted) hg (bl "sorted" (by decide)) boot_sorted ha (by decide) (by decide) e1 e2)
theorem s_gcd (k : Ok X f t W) (hg : Gl X "gcd") (hh : t.gcd = true) (hs : (x :: es).all notStar = true) (ha : PA X (x :: es) (tL f t W r)) : PE X (.Call (.Name "gcd" p) (x :: es) [] pos) (tE f t W (.bi .gcd r)) := by
  simp only [List.all_cons, Bool.and_eq_true] at hs
  refine PEimp (pe_callBfun (cb_gcd (c := f.c)) hg (k.gcd hh) ha (by decide) (star_cons hs.1) (star_any hs.2)) fun σ H Q hq => vn_of ?_
  unfold tE at hq
  rw [rpE_eq rfl] at hq
  exact hq
theorem s_bits {ap : Pos} (k : Ok X f t W) (hl : (ap.endLine == pos.line) = true) (hb : notSuper x = true) (ha : PE X x (tE f t W a)) : PE X (.Call (.Attribute x "bit_length" ap) [] [] pos) (tE f t W (.bi .bits (.cons a .nil))) :=
  PEimp (pe_bits ha (base_is hb) hl) fun σ H Q hq => by
    unfold tE at hq
    rw [rpE_eq rfl] at hq
    obtain ⟨H0, ρ, st, rel, q⟩ := hq
    simp only [ev, evs, M.bind_bind, M.bind_ret] at q
    refine ⟨H0, ρ, st, rel, q.step rel fun v H1 d st1 G0 g rel1 ra q1 => ?_⟩
    simp only [dbi] at q1
    cases d with
    | int i => exact ⟨i, soft_int (rpE_soft ra), Fin.now (a := D.int (Builtin.Int.intBits i : Nat)) q1 rel1.sub rel1.pen (.int _)⟩
    | _ => exact q1.elim
/-! ### isinstance -/
theorem glB_ok {i : Str} (h : glB X.env.scope i = true) : Gl X i := by
  unfold glB at h
  exact beq_iff_eq.mp h
theorem ty_ok {ty : Ty} (k : Ok X f t W) (h : tyB t f.c.used X.env.scope ty x = true) : PE X x (tC (tyV' f.c ty)) := by
  cases x <;> simp only [tyB, Bool.false_eq_true] at h
  rename_i id ps
  simp only [Bool.and_eq_true, Bool.not_eq_true', beq_iff_eq] at h
  obtain ⟨⟨⟨h1, h2⟩, h3⟩, h4⟩ := h
  have hg : Gl X id := glB_ok h1
  have bl := k.blt
  subst h3
  cases ty
  · exact pe_bltn (x := "int") hg (bl "int" (by decide)) boot_int rfl (by decide) (by decide)
  · exact pe_bltn (x := "bool") hg (bl "bool" (by decide)) boot_bool rfl (by decide) (by decide)
  · exact pe_bltn (x := "str") hg (bl "str" (by decide)) boot_str rfl (by decide) (by decide)
  · exact pe_bltn (x := "tuple") hg (bl "tuple" (by decide)) boot_tuple rfl (by decide) (by decide)
  · exact pe_bltn (x := "list") hg (bl "list" (by decide)) boot_list rfl (by decide) (by decide)
  · exact pe_bltn (x := "dict") hg (bl "dict" (by decide)) boot_dict rfl (by decide) (by decide)
  · exact pe_glob hg (k.cls _ h4) (tyV_rel (c := f.c) (Ty.own _)) h2
theorem tyB_used {sc : Scope} {ty : Ty} (h : tyB t f.c.used sc ty x = true) : ∀ n, ty = .own n → f.c.used n = true := fun n e => by
  subst e
  cases x <;> simp only [tyB, Bool.false_eq_true] at h
  simp only [Bool.and_eq_true] at h
  exact h.2
theorem soft_obj {c : Cfg} {H0 H : Hp} {v : V} {d : D} (h : softP c v d H0 H) : ∀ n l, d = .obj n l → c.used n = true := fun n l e => by
  subst e
  rcases h with h | ⟨_, _, _, _, e2, _⟩
  · cases h with
    | obj _ h hu fl rs => exact hu
    | exc _ _ _ hu _ _ => exact hu
    | exc0 _ _ hu _ => exact hu
  · cases e2
/-- a row of kinds -/
theorem tys_vals : ∀ {ts : List Ty}, Paired ClsV (ts.map (tyV' f.c)) (ts.map (tyVal f.c))
  | [] => .nil
  | ty :: ts => .cons (tyV_cls ty) tys_vals
theorem pa_tys (k : Ok X f t W) : ∀ {ts : List Ty} {es : List Expr}, ts.length = es.length → ((ts.zip es).all fun p => tyB t f.c.used X.env.scope p.1 p.2) = true → PA X es (fun σ H Q => Q (ts.map (tyV' f.c)) H)
  | [], [], _, _ => pa_nil
  | ty :: ts, e :: es, hl, h => by
    simp only [List.zip_cons_cons, List.all_cons, Bool.and_eq_true] at h
    have n : notStar e = true := by
      cases e <;> first | rfl | (simp [tyB] at h; done)
    exact PAimp (pa_cons (ty_ok k h.1) (pa_tys k (by simpa using hl) h.2) (star_cons n)) fun σ H Q q => q
  | [], _ :: _, hl, _ => by cases hl
  | _ :: _, [], hl, _ => by cases hl
theorem kit_any (k : Ok X f t W) {d : D} (hd : ∀ n l, d = .obj n l → f.c.used n = true) : ∀ {ts : List Ty} (hu : ∀ ty ∈ ts, ∀ n, ty = .own n → f.c.used n = true), PySem.W.kitAny X.K (tyOf f.c d) (ts.map (tyVal f.c)) = some (ts.any fun ty => dtype ty d)
  | [], _ => kitAny_nil
  | ty :: ts, hu => by
    refine kitAny_cons (k.isi ty d (hu ty List.mem_cons_self) hd) (fun e => ?_) (fun e => ?_)
    · rw [kit_any k hd fun ty' m => hu ty' (List.mem_cons_of_mem _ m), List.any_cons, e]
      rfl
    · rw [List.any_cons, e]
      rfl
theorem s_isi {ts : List Ty} (k : Ok X f t W) (hg : Gl X "isinstance") (n1 : notStar x = true) (n2 : notStar y = true) (ha : PE X x (tE f t W a)) (hty : tysB t f.c.used X.env.scope ts y = true) :
    PE X (.Call (.Name "isinstance" p) [x, y] [] pos) (tE f t W (.bi (.isi ts) (.cons a .nil))) := by
  have e1 : starEach [x, y] X.env = (false, eval x X.env) :: starEach [y] X.env := star_cons n1
  have e2 : (backTo pos (starEach [y] X.env)).any (·.1) = false := star_any (by simp [n2])
  have run : ∀ {σ : L2.St} {H : Hp} {Q : VK}, tE f t W (.bi (.isi ts) (.cons a .nil)) σ H Q → tE f t W a σ H fun v H1 => ∃ d G0 st1 ρ, Rel f.c G0 H1 σ ρ st1 ∧ softP f.c v d G0 H1 ∧ (∀ k, d ≠ .lam k) ∧ ∀ H2, (∃ G1, Step f.c G0 H1 G1 H2) → Q (.bl (ts.any fun ty => dtype ty d)) H2 := fun {σ H Q} hq => by
    unfold tE at hq
    rw [rpE_eq rfl] at hq
    obtain ⟨H0, ρ, st, rel, q⟩ := hq
    simp only [ev, evs, M.bind_bind, M.bind_ret] at q
    refine ⟨H0, ρ, st, rel, q.step rel fun v H1 d st1 G0 g rel1 ra q1 => ?_⟩
    have hl : ∀ k, d ≠ .lam k := fun k e => by
      subst e
      exact q1.elim
    have e1 : dbi (.isi ts) [d] = some (.bl (ts.any fun ty => dtype ty d)) := by cases d <;> first | rfl | exact absurd rfl (hl _)
    rw [e1] at q1
    exact ⟨d, G0, st1, ρ, rel1, rpE_soft ra, hl, fun H2 ⟨G1, s⟩ => q1 _ G1 H2 s.g (s.p _ rel1.pen) (.bl _)⟩
  have one : ∀ {ty : Ty}, ts = [ty] → tyB t f.c.used X.env.scope ty y = true → PE X (.Call (.Name "isinstance" p) [x, y] [] pos) (tE f t W (.bi (.isi ts) (.cons a .nil))) := fun {ty} et hy => by
    refine PEimp (pe_callB call_isY hg (k.blt "isinstance" (by decide)) boot_isinstance (pa_cons ha (pa_cons (ty_ok k hy) pa_nil (star_cons n2)) e1) (by decide) (by decide) e1 e2) fun σ H Q hq => ?_
    obtain ⟨H0, ρ, st, rel, q⟩ := run hq
    refine ⟨H0, ρ, st, rel, q.imp fun v H1 ⟨d, G0, st1, ρ1, rel1, hs, hl, q1⟩ => ?_⟩
    subst et
    refine ⟨v, tyV' f.c ty, tyOf f.c d, tyVal f.c ty, dtype ty d, rfl, tyV_cls ty, ?_, k.isi ty d (tyB_used hy) (soft_obj hs), ?_⟩
    · rw [k.hK]
      exact soft_ty rel1.sub ⟨_, rel1.pen⟩ k.objs hl hs
    · have := q1 H1 ⟨G0, .refl rel1.sub⟩
      simpa using this
  have many : ∀ {es : List Expr} {kk : Nat} {tp : Pos}, y = .Tuple es kk tp → ts.length = es.length → ts.length ≤ 20 → ((ts.zip es).all fun p => tyB t f.c.used X.env.scope p.1 p.2) = true → PE X (.Call (.Name "isinstance" p) [x, y] [] pos) (tE f t W (.bi (.isi ts) (.cons a .nil))) := fun {es kk tp} ey hl hz h => by
    subst ey
    refine PEimp (pe_callB call_isYT hg (k.blt "isinstance" (by decide)) boot_isinstance (pa_cons ha (pa_cons (pe_tup (pa_tys k hl h)) pa_nil (star_cons n2)) e1) (by decide) (by decide) e1 e2) fun σ H Q hq => ?_
    obtain ⟨H0, ρ, st, rel, q⟩ := run hq
    refine ⟨H0, ρ, st, rel, q.imp fun v H1 ⟨d, G0, st1, ρ1, rel1, hs, hl, q1⟩ => ?_⟩
    refine ⟨by rw [List.length_map]; exact size_le (by omega), fun np np' => ?_⟩
    refine ⟨v, np, ts.map (tyV' f.c), tyOf f.c d, ts.map (tyVal f.c), _, rfl, upd_same, tys_vals, ?_, kit_any k (soft_obj hs) fun ty m n e => ?_, ?_⟩
    · rw [k.hK]
      have s := Step.new (c := f.c) (o := HO.tup (ts.map (tyV' f.c))) rel1.sub np'
      refine soft_ty s.g.sub ⟨_, s.p _ rel1.pen⟩ k.objs hl ?_
      rcases hs with hs | hs
      · exact .inl (hs.mono s.g.fast)
      · exact .inr (hs.grow s.g)
    · obtain ⟨i, hi, rfl⟩ := List.mem_iff_getElem.mp m
      have hi' : i < es.length := by omega
      rw [List.all_eq_true] at h
      have := h (ts[i], es[i]) (by
        rw [List.mem_iff_getElem]
        exact ⟨i, by rw [List.length_zip]; omega, by rw [List.getElem_zip]⟩)
      exact tyB_used this n e
    · exact q1 _ ⟨_, Step.new rel1.sub np'⟩
  unfold tysB at hty
  split at hty
  · exact one rfl hty
  · simp only [Bool.and_eq_true, beq_iff_eq, decide_eq_true_eq] at hty
    exact many rfl hty.1.1 hty.1.2 hty.2
  · cases hty
end
end VC
set_option Elab.async false
set_option linter.all false
set_option maxRecDepth 100000
set_option maxHeartbeats 1000000
/-! VCl: what is walked; targets; comprehensions. -/
namespace VC
open PySem PySem.Spec PyProof.Rows L2
/-! ### slots stored and wiped -/
section
variable {c : Cfg} {H0 H : Hp} {σ : L2.St} {ρ : Env} {st : PenSt}
theorem getset {α : Type} {l : List α} {i j : Nat} {x y : α} (h : (l.set i x)[j]? = some y) : (j = i ∧ y = x) ∨ (j ≠ i ∧ l[j]? = some y) := by
  by_cases e : j = i
  · subst e
    have hl : j < l.length := by
      have := (List.getElem?_eq_some_iff.mp h).1
      simpa using this
    rw [List.getElem?_set_self hl] at h
    exact .inl ⟨rfl, (Option.some.inj h).symm⟩
  · rw [List.getElem?_set_ne (Ne.symm e)] at h
    exact .inr ⟨e, h⟩
theorem EnvOk.setVal (h : EnvOk c H0 H σ ρ) (i : Nat) {v : V} {d : D} (r : Rep c H0 v d) : EnvOk c H0 H (σ.set i (some v)) (ρ.set i (.val d)) := by
  refine ⟨by rw [List.length_set, List.length_set]; exact h.len, fun j s q e1 e2 => ?_, fun j k l m w hne e1 e2 e3 => ?_⟩
  · rcases getset e1 with ⟨rfl, rfl⟩ | ⟨n, e1⟩
    · rcases getset e2 with ⟨_, rfl⟩ | ⟨n, _⟩
      · exact ⟨v, rfl, r⟩
      · exact absurd rfl n
    · rcases getset e2 with ⟨e, _⟩ | ⟨_, e2⟩
      · exact absurd e n
      · exact h.slot j s q e1 e2
  · rcases getset e1 with ⟨_, e⟩ | ⟨n1, e1⟩
    · cases e
    · rcases getset e2 with ⟨_, e⟩ | ⟨n2, e2⟩
      · cases e
      · rcases getset e3 with ⟨e, _⟩ | ⟨_, e3⟩
        · exact absurd e n1
        · rw [List.getElem?_set_ne (Ne.symm n2)]
          exact h.apart j k l m w hne e1 e2 e3
theorem EnvOk.setNo (h : EnvOk c H0 H σ ρ) (i : Nat) {s : Option V} : EnvOk c H0 H (σ.set i s) (ρ.set i .no) := by
  refine ⟨by rw [List.length_set, List.length_set]; exact h.len, fun j s q e1 e2 => ?_, fun j k l m w hne e1 e2 e3 => ?_⟩
  · rcases getset e2 with ⟨_, rfl⟩ | ⟨n, e2⟩
    · trivial
    · rcases getset e1 with ⟨e, _⟩ | ⟨_, e1⟩
      · exact absurd e n
      · exact h.slot j s q e1 e2
  · rcases getset e1 with ⟨_, e⟩ | ⟨n1, e1⟩
    · cases e
    · rcases getset e2 with ⟨_, e⟩ | ⟨n2, e2⟩
      · cases e
      · rcases getset e3 with ⟨e, _⟩ | ⟨_, e3⟩
        · exact absurd e n1
        · rw [List.getElem?_set_ne (Ne.symm n2)]
          exact h.apart j k l m w hne e1 e2 e3
theorem EnvOk.wipe (h : EnvOk c H0 H σ ρ) : ∀ is : List Nat, EnvOk c H0 H (L2.wipe σ is) (wipeD ρ is)
  | [] => h
  | i :: is => (EnvOk.wipe h is).setNo i
theorem wipe_set {i : Nat} {x : Option V} : ∀ {vs : List Nat} {σ : L2.St}, i ∈ vs → L2.wipe (σ.set i x) vs = L2.wipe σ vs
  | [], _, h => by cases h
  | v :: vs, σ, h => by
    unfold L2.wipe
    by_cases e : v = i
    · subst e
      by_cases m : v ∈ vs
      · rw [wipe_set m]
      · refine List.ext_getElem? fun j => ?_
        by_cases ej : j = v
        · subst ej
          by_cases hl : j < σ.length
          · rw [List.getElem?_set_self (by rw [L2.wipe_length, List.length_set]; exact hl), List.getElem?_set_self (by rw [L2.wipe_length]; exact hl)]
          · rw [List.getElem?_eq_none (by rw [List.length_set, L2.wipe_length, List.length_set]; omega), List.getElem?_eq_none (by rw [List.length_set, L2.wipe_length]; omega)]
        · rw [List.getElem?_set_ne (Ne.symm ej), List.getElem?_set_ne (Ne.symm ej)]
          by_cases mj : j ∈ vs
          · have : ∀ (σ : L2.St), (L2.wipe σ vs)[j]? = if j < σ.length then some none else none := fun σ => wipe_in mj
            rw [this, this, List.length_set]
          · rw [L2.wipe_out mj, L2.wipe_out mj, List.getElem?_set_ne (Ne.symm ej)]
    · have m : i ∈ vs := by
        rcases List.mem_cons.mp h with h | h
        · exact absurd h.symm e
        · exact h
      rw [wipe_set m]
where
  wipe_in {j : Nat} : ∀ {vs : List Nat} {σ : L2.St}, j ∈ vs → (L2.wipe σ vs)[j]? = if j < σ.length then some none else none
    | [], _, h => by cases h
    | v :: vs, σ, h => by
      unfold L2.wipe
      by_cases e : v = j
      · subst e
        split
        · rename_i hl
          rw [List.getElem?_set_self (by rw [L2.wipe_length]; exact hl)]
        · rename_i hl
          rw [List.getElem?_eq_none (by rw [List.length_set, L2.wipe_length]; omega)]
      · have m : j ∈ vs := by
          rcases List.mem_cons.mp h with h | h
          · exact absurd h.symm e
          · exact h
        rw [List.getElem?_set_ne e, wipe_in m]
theorem wipe_wipe (σ : L2.St) (vs : List Nat) : ∀ us : List Nat, (∀ u ∈ us, u ∈ vs) → L2.wipe (L2.wipe σ us) vs = L2.wipe σ vs
  | [], _ => rfl
  | u :: us, h => by
    show L2.wipe ((L2.wipe σ us).set u none) vs = _
    rw [wipe_set (h u List.mem_cons_self), wipe_wipe σ vs us fun w hw => h w (List.mem_cons_of_mem _ hw)]
/-! ### targets -/
def setAllV (σ : L2.St) : List Nat → List V → Option L2.St
  | [], [] => some σ
  | i :: is, v :: vs => setAllV (σ.set i (some v)) is vs
  | _, _ => none
theorem EnvOk.setAll : ∀ {is : List Nat} {vs : List V} {ds : List D} {σ : L2.St} {ρ ρ' : Env}, EnvOk c H0 H σ ρ → Reps c H0 vs ds → setAll ρ is ds = some ρ' → ∃ σ', setAllV σ is vs = some σ' ∧ EnvOk c H0 H σ' ρ' ∧ ∀ us : List Nat, (∀ i ∈ is, i ∈ us) → L2.wipe σ' us = L2.wipe σ us
  | [], _, _, σ, _, _, h, .nil, e => by
    cases e
    exact ⟨σ, rfl, h, fun _ _ => rfl⟩
  | i :: is, _, _, σ, _, _, h, .cons r rs, e => by
    obtain ⟨σ', e1, h1, h2⟩ := EnvOk.setAll (h.setVal i r) rs e
    exact ⟨σ', e1, h1, fun us hu => by rw [h2 us fun j m => hu j (List.mem_cons_of_mem _ m), wipe_set (hu i List.mem_cons_self)]⟩
  | [], _, _, _, _, _, _, .cons _ _, e => by cases e
  | _ :: _, _, _, _, _, _, _, .nil, e => by cases e
end
def gAll (is : List Nat) : TGs := fun vs σ H Q => ∃ σ', setAllV σ is vs = some σ' ∧ Q σ' H
def gT (K : PySem.W.Frag) : Tg → TG
  | .name i => gName i
  | .tup is => gTup K is.length (gAll is)
section
variable {X : Cx} {f : Cf} {t : Tab} {W : XK}
theorem PGimp {e : Expr} {u u' : TG} (h : PG X e u) (k : ∀ v σ H Q, u' v σ H Q → u v σ H Q) : PG X e u' := ⟨fun pins s σ H v w Q I r q => h.run pins s σ H v w Q I r (k _ _ _ _ q)⟩
theorem PGsimp {e : List Expr} {u u' : TGs} (h : PGs X e u) (k : ∀ v σ H Q, u' v σ H Q → u v σ H Q) : PGs X e u' := ⟨fun pins s σ H v w Q I r q => h.run pins s σ H v w Q I r (k _ _ _ _ q)⟩
/-- a name that is stored -/
structure NameOk (X : Cx) (i : Nat) (x : Str) : Prop where
  ix : X.N[i]? = some x
  loc : Loc X.env.scope x
  fn : X.fn x = true ∨ X.env.scope.names.lookup x = some .local
def nmB (X : Cx) (i : Nat) : Expr → Prop
  | .Name x _ => NameOk X i x
  | _ => False
theorem pgs_names (hN : X.N.Nodup) : ∀ {is : List Nat} {es : List Expr}, is.length = es.length → (∀ p ∈ is.zip es, nmB X p.1 p.2) → PGs X es (gAll is) ∧ (assignEach es X.env).length = is.length ∧ (assignEach es X.env).findIdx? (·.1) = none
  | [], [], _, _ => by
    refine ⟨PGsimp pgs_nil fun v σ H Q q => ?_, rfl, rfl⟩
    obtain ⟨σ', e, q⟩ := q
    cases v with
    | nil =>
      cases e
      exact ⟨rfl, q⟩
    | cons a l => cases e
  | i :: is, e :: es, hl, h => by
    have h1 := h (i, e) (by simp)
    obtain ⟨g1, g2, g3⟩ := pgs_names hN (is := is) (es := es) (by simpa using hl) fun p m => h p (by simp [m])
    cases e <;> try (exact h1.elim)
    rename_i x px
    refine ⟨PGsimp (pgs_cons (pg_name hN h1.ix h1.loc h1.fn) g1 rfl) fun v σ H Q q => ?_, ?_, ?_⟩
    · obtain ⟨σ', e, q⟩ := q
      cases v with
      | nil => cases e
      | cons a l => exact ⟨a, l, rfl, σ', e, q⟩
    · show (assignEach es X.env).length + 1 = _
      rw [g2]
      rfl
    · show List.findIdx? _ ((false, assign (.Name x px) X.env) :: assignEach es X.env) = none
      rw [List.findIdx?_cons, g3]
      rfl
  | [], _ :: _, hl, _ => by cases hl
  | _ :: _, [], hl, _ => by cases hl
def tgOk (X : Cx) : Tg → Expr → Prop
  | .name i, e => nmB X i e
  | .tup is, .Tuple es _ _ => is.length = es.length ∧ ∀ p ∈ is.zip es, nmB X p.1 p.2
  | _, _ => False
theorem tg_ok (hc : X.calm = true) (hN : X.N.Nodup) {tg : Tg} {e : Expr} (h : tgOk X tg e) : PG X e (gT X.K tg) := by
  cases tg with
  | name i =>
    cases e <;> try (exact h.elim)
    have h : NameOk X i _ := h
    exact pg_name hN h.ix h.loc h.fn
  | tup is =>
    cases e <;> try (exact h.elim)
    obtain ⟨g1, g2, g3⟩ := pgs_names hN h.1 h.2
    exact pg_tup hc g1 g2 g3
/-- a target by values -/
theorem gT_run {tg : Tg} {v : V} {d : D} {H0 H : Hp} {σ : L2.St} {ρ ρ' : Env} {Q : L2.St → Hp → Prop} (sm : Same H0 H) (en : EnvOk f.c H0 H σ ρ) (r : Rep f.c H0 v d) (e : bindTg tg d ρ = some ρ')
    (q : ∀ σ', EnvOk f.c H0 H σ' ρ' → (∀ us : List Nat, (∀ i ∈ tg.slots, i ∈ us) → L2.wipe σ' us = L2.wipe σ us) → Q σ' H) : gT f.c.K tg v σ H Q := by
  cases tg with
  | name i =>
    cases e
    exact q _ (en.setVal i r) fun us hu => wipe_set (hu i (by simp [Tg.slots]))
  | tup is =>
    cases r <;> try (cases e; done)
    rename_i a vs ds h z rs
    obtain ⟨σ', e1, h1, h2⟩ := en.setAll rs e
    refine ⟨a, vs, rfl, same_sqT sm h, ?_, σ', e1, q σ' h1 h2⟩
    have : ∀ {is : List Nat} {σ : L2.St} {vs : List V} {σ' : L2.St}, setAllV σ is vs = some σ' → vs.length = is.length := by
      intro is
      induction is with
      | nil => intro σ vs σ' e; cases vs <;> first | rfl | cases e
      | cons i is ih => intro σ vs σ' e; cases vs <;> first | cases e | (rw [List.length_cons, List.length_cons, ih e])
    exact this e1
/-! ### what is walked -/
structure Serves (c : Cfg) (J : L2.It) (R : Hp → Hp → Prop) (ds : List D) : Prop where
  len : ds.length ≤ sizeLine
  go : ∀ i H0 H, R H0 H → i < ds.length → J.go i H
  stop : ∀ i H0 H, R H0 H → i = ds.length → J.stop i H
  yld : ∀ i H0 H x H', R H0 H → Same H0 H → i < ds.length → J.yld i H x H' → ∃ d H0', ds[i]? = some d ∧ Step c H0 H H0' H' ∧ Rep c H0' x d
/-- how the heap may change while one walks: hard, anything that keeps what stands fast -/
def walkR (c : Cfg) (hd : Bool) (H0 H H0' H' : Hp) : Prop := if hd = true then Same H0 H0' ∧ Same H0' H' else Grow c H0 H H0' H'
def rpI (c : Cfg) (hd : Bool) : RP L2.It (List D) := fun J ds H0 H => Serves c J (walkR c hd H0 H) ds
theorem walk_fast {c : Cfg} {hd : Bool} {H0 H H0' H' : Hp} (h : walkR c hd H0 H H0' H') : Same H0 H0' ∧ Same H0' H' := by
  unfold walkR at h
  split at h
  · exact h
  · exact ⟨h.fast, h.sub⟩
theorem Grow.keep {c : Cfg} {H0 H H0' H' : Hp} (g : Grow c H0 H H0' H') (sm : Same H0 H) {a : Addr} {o : HO} (h : H a = some o) (n : a ≠ c.pa) (nt : ∀ ps, o ≠ .tbl ps) : H' a = some o := by
  cases e : H0 a with
  | none => exact (g.old a o n nt h e).1
  | some u =>
    have := sm _ _ e
    rw [h] at this
    cases this
    exact g.sub _ _ (g.fast _ _ e)
/-- a list that is walked -/
theorem walk_list {c : Cfg} {hd : Bool} {H0 H : Hp} {v : V} {ds : List D} {st : PenSt} (sm : Same H0 H) (pen : PenAt c H0 H st) (h : softP c v (.lst ds) H0 H) (hh : hd = true → Rep c H0 v (.lst ds)) :
    ∃ a vs, v = .ref a ∧ vs.length ≤ sizeLine ∧ Reps c H0 vs ds ∧ H a = some (.lst vs) ∧ ∀ H0' H', walkR c hd H0 H H0' H' → H' a = some (.lst vs) := by
  by_cases e : hd = true
  · have rr := hh e
    clear h
    cases rr with
    | lst h2 z r => exact ⟨_, _, rfl, z, r, sm _ _ h2, fun H0' H' w => (walk_fast w).2 _ _ ((walk_fast w).1 _ _ h2)⟩
  · obtain ⟨a, vs, rfl, ha, z, r⟩ := soft_lst sm h
    refine ⟨a, vs, rfl, z, r, ha, fun H0' H' w => ?_⟩
    unfold walkR at w
    rw [if_neg e] at w
    exact w.keep sm ha (pen.npl ha) lst_nt
theorem SqL_one {K : PySem.W.Frag} {H : Hp} {a : Addr} {xs ys : List V} (h : H a = some (.lst xs)) : SqL K H a xs := .of h
def iSeq (K : PySem.W.Frag) (tl : TE) : TI := fun σ H R => tl σ H fun x H1 => ∃ a, x = .ref a ∧ ((∃ xs, SqL K H1 a xs ∧ R (Itl K a) H1) ∨ (∃ xs, SqT K H1 a xs ∧ R (Itt K a) H1))
theorem pi_seq {tg l : Expr} {tl : TE} (hl : PE X l tl) : PI X tg l (iSeq X.K tl) := by
  refine ⟨fun pins s σ H R I h => ?_⟩
  refine thn (hl.run pins s σ H _ I h) fun v s1 ⟨x, H1, I1, r1, q1⟩ => ?_
  obtain ⟨a, e, q⟩ := q1
  subst e
  cases r1
  rcases q with ⟨xs, hq, q⟩ | ⟨xs, hq, q⟩
  · obtain ⟨its, rv, p, hz⟩ := I1.list hq
    refine wpAny_pyIter_list p.isList ?_
    refine ⟨s1.heap.objs.size, [s1.heap.objs.size], _, _, H1, rfl, I1.kept (t' := s1.toks) fun b o e => Heap.get?_push_of_some _ e, turn_list a _, ⟨_, Heap.get?_push_size _ rfl, rfl, rfl⟩, fun b hb => ?_, q⟩
    have e : b = s1.heap.objs.size := by simpa using hb
    subst e
    exact I1.fpOk (Nat.le_refl _) (I1.hok.fresh (Nat.le_refl _))
  · obtain ⟨its, rv, p, hz⟩ := I1.tuple hq
    refine wpAny_pyIter_tuple (show s1.heap.IsTuple a its.toArray from p) ?_
    refine ⟨s1.heap.objs.size, [s1.heap.objs.size], _, _, H1, rfl, I1.kept (t' := s1.toks) fun b o e => Heap.get?_push_of_some _ e, turn_tuple a _, ⟨_, Heap.get?_push_size _ rfl, rfl, rfl⟩, fun b hb => ?_, q⟩
    have e : b = s1.heap.objs.size := by simpa using hb
    subst e
    exact I1.fpOk (Nat.le_refl _) (I1.hok.fresh (Nat.le_refl _))
theorem PIimp {tg e : Expr} {u u' : TI} (h : PI X tg e u) (k : ∀ σ H Q, u' σ H Q → u σ H Q) : PI X tg e u' := ⟨fun pins s σ H Q I q => h.run pins s σ H Q I (k _ _ _ q)⟩
abbrev iT (f : Cf) (t : Tab) (W : XK) (hd : Bool) (k : VC.It) (r : VC.E) : TI := tM f W (rpI f.c hd) fun ρ => M.bind (evs t.Phi f.c.F r ρ) fun l => M.of (dItems k l)
variable {x y : Expr} {a b r : VC.E} {hd : Bool} {tg : Expr} {p pos : Pos}
theorem fin_of {U V' : Type} {rp : RP V' U} {H0 H : Hp} {o : Option U} {st : PenSt} {Q : V' → Hp → Prop} (h : Fin f W rp H0 H (M.of o st) Q) : ∃ u, o = Option.some u ∧ Fin f W rp H0 H (M.ret u st) Q := by
  cases o with
  | none => exact h.elim
  | some u => exact ⟨u, rfl, h⟩
theorem soft_tup0 {c : Cfg} {H0 H : Hp} {v : V} {ds : List D} (h : softP c v (.tup ds) H0 H) : ∃ a vs, v = .ref a ∧ SqT c.K H0 a vs ∧ vs.length ≤ sizeLine ∧ Reps c H0 vs ds := by
  rcases h with h | ⟨_, _, _, _, e2, _⟩
  · cases h with
    | tup h z r => exact ⟨_, _, rfl, h, z, r⟩
  · cases e2
/-- a tuple's items are one -/
theorem sqT_one {K : PySem.W.Frag} {H : Hp} {a : Addr} {xs ys : List V} (h : SqT K H a xs) (h' : SqT K H a ys) (n : H a ≠ none ∨ K.lookup a ≠ none ∨ True) : True := trivial
theorem walk_stop {H0 H : Hp} {c : Cfg} : True := trivial
/-- the items of a list, of a tuple, one by one -/
theorem serves_list {c : Cfg} {hd : Bool} {H0 H : Hp} {a : Addr} {vs : List V} {ds : List D} (z : vs.length ≤ sizeLine) (r : Reps c H0 vs ds) (hk : ∀ H0' H', walkR c hd H0 H H0' H' → H' a = some (.lst vs)) : Serves c (Itl c.K a) (walkR c hd H0 H) ds := by
  have hl := r.length
  refine ⟨by rw [← hl]; exact z, fun i H0' H' w hi => ?_, fun i H0' H' w hi => ?_, fun i H0' H' x H2 w sm hi y => ?_⟩
  · exact ⟨vs, vs[i], .of (hk _ _ w), List.getElem?_eq_getElem (by omega)⟩
  · exact ⟨vs, .of (hk _ _ w), by omega⟩
  · obtain ⟨rfl, y⟩ := y
    have e := y vs (.of (hk _ _ w))
    obtain ⟨d, e2, r2⟩ := r.getV e
    exact ⟨d, H0', e2, .refl sm, r2.mono (walk_fast w).1⟩
theorem serves_tup {c : Cfg} {hd : Bool} {H0 H : Hp} {a : Addr} {vs : List V} {ds : List D} (z : vs.length ≤ sizeLine) (r : Reps c H0 vs ds) (hk : SqT c.K H0 a vs) : Serves c (Itt c.K a) (walkR c hd H0 H) ds := by
  have hl := r.length
  have hq : ∀ {H0' H'}, walkR c hd H0 H H0' H' → SqT c.K H' a vs := fun {H0' H'} w => same_sqT (walk_fast w).2 (same_sqT (walk_fast w).1 hk)
  refine ⟨by rw [← hl]; exact z, fun i H0' H' w hi => ?_, fun i H0' H' w hi => ?_, fun i H0' H' x H2 w sm hi y => ?_⟩
  · exact ⟨vs, vs[i], hq w, List.getElem?_eq_getElem (by omega)⟩
  · exact ⟨vs, hq w, by omega⟩
  · obtain ⟨rfl, y⟩ := y
    have e := y vs (hq w)
    obtain ⟨d, e2, r2⟩ := r.getV e
    exact ⟨d, H0', e2, .refl sm, r2.mono (walk_fast w).1⟩
theorem upTo_length (lo : Int) : ∀ n, (upTo lo n).length = n
  | 0 => rfl
  | n + 1 => by
    show (upTo (lo + 1) n).length + 1 = n + 1
    rw [upTo_length]
theorem upTo_get : ∀ (n : Nat) (lo : Int) (i : Nat), i < n → (upTo lo n)[i]? = some (.int (lo + i))
  | 0, _, _, h => by omega
  | n + 1, lo, 0, _ => by simp [upTo]
  | n + 1, lo, i + 1, h => by
    show (upTo (lo + 1) n)[i]? = _
    rw [upTo_get n (lo + 1) i (by omega)]
    congr 2
    omega
theorem serves_range {c : Cfg} {R : Hp → Hp → Prop} {lo : Int} {n : Nat} (z : n ≤ sizeLine) : Serves c (Itr lo n) R (upTo lo n) := by
  refine ⟨by rw [upTo_length]; exact z, fun i H0' H' w hi => ?_, fun i H0' H' w hi => ?_, fun i H0' H' x H2 w sm hi y => ?_⟩
  · rw [upTo_length] at hi
    exact hi
  · rw [upTo_length] at hi
    exact Nat.le_of_eq hi.symm
  · rw [upTo_length] at hi
    obtain ⟨rfl, rfl⟩ := y
    exact ⟨_, H0', upTo_get n lo i hi, .refl sm, .int _⟩
theorem zip_get {vs ws : List V} {ds es : List D} {c : Cfg} {H0 : Hp} (r : Reps c H0 vs ds) (r2 : Reps c H0 ws es) {i : Nat} {x y : V} (h1 : vs[i]? = some x) (h2 : ws[i]? = some y) : ∃ d e, ((ds.zip es).map fun p => D.tup [p.1, p.2])[i]? = some (.tup [d, e]) ∧ Rep c H0 x d ∧ Rep c H0 y e := by
  obtain ⟨d, e1, q1⟩ := r.getV h1
  obtain ⟨e, e2, q2⟩ := r2.getV h2
  refine ⟨d, e, ?_, q1, q2⟩
  rw [List.getElem?_map, (List.getElem?_zip_eq_some (z := (d, e))).mpr ⟨e1, e2⟩]
  rfl
theorem serves_pair {c : Cfg} {hd : Bool} {J : L2.It} {H0 H : Hp} {vs ws : List V} {ds es : List D} (z : vs.length ≤ sizeLine) (r : Reps c H0 vs ds) (r2 : Reps c H0 ws es)
    (hgo : ∀ i H0' H', walkR c hd H0 H H0' H' → i < vs.length → i < ws.length → J.go i H') (hst : ∀ i H0' H', walkR c hd H0 H H0' H' → vs.length ≤ i ∨ ws.length ≤ i → J.stop i H')
    (hy : ∀ i H0' H' v H2, walkR c hd H0 H H0' H' → J.yld i H' v H2 → ∃ T x y, v = .ref T ∧ H' T = none ∧ H2 = upd H' T (.tup [x, y]) ∧ vs[i]? = some x ∧ ws[i]? = some y) : Serves c J (walkR c hd H0 H) ((ds.zip es).map fun p => D.tup [p.1, p.2]) := by
  have h1 := r.length
  have h2 := r2.length
  have hl : ((ds.zip es).map fun p => D.tup [p.1, p.2]).length = min ds.length es.length := by rw [List.length_map, List.length_zip]
  refine ⟨by rw [hl]; omega, fun i H0' H' w hi => ?_, fun i H0' H' w hi => ?_, fun i H0' H' x H2 w sm hi y => ?_⟩
  · rw [hl] at hi
    exact hgo i _ _ w (by omega) (by omega)
  · rw [hl] at hi
    exact hst i _ _ w (by omega)
  · obtain ⟨T, x', y', rfl, hn, rfl, e1, e2⟩ := hy i _ _ _ _ w y
    obtain ⟨d, e, e3, q1, q2⟩ := zip_get r r2 e1 e2
    exact ⟨_, upd H0' T (.tup [x', y']), e3, .new sm hn, .newT (sm.free hn) (by show 2 ≤ sizeLine; decide) (.cons (q1.mono (walk_fast w).1) (.cons (q2.mono (walk_fast w).1) .nil))⟩
theorem i_seq (hK : X.K = f.c.K) (ha : PE X x (tE f t W a)) (hh : hd = true → isBor a = false) : PI X tg x (iT f t W hd .seq (.cons a .nil)) :=
  PIimp (pi_seq ha) fun σ H Q ⟨H0, ρ, st, rel, q⟩ => by
    simp only [evs, M.bind_bind, M.bind_ret] at q
    rw [hK]
    refine ⟨H0, ρ, st, rel, q.step rel fun v H1 d st1 G0 g rel1 ra q1 => ?_⟩
    obtain ⟨ds, e, q2⟩ := fin_of q1
    have hs := rpE_soft ra
    cases d <;> simp only [dItems, dSeq, items?, reduceCtorEq, Option.some.injEq] at e
    · subst e
      obtain ⟨a, vs, rfl, ha, z, rr⟩ := soft_tup0 hs
      exact ⟨a, rfl, .inr ⟨vs, same_sqT rel1.sub ha, q2 _ G0 H1 (.refl rel1.sub) rel1.pen (serves_tup z rr ha)⟩⟩
    · subst e
      obtain ⟨a, vs, rfl, z, rr, ha, hk⟩ := walk_list (hd := hd) rel1.sub rel1.pen hs fun e => rpE_hard (hh e) ra
      exact ⟨a, rfl, .inl ⟨vs, .of ha, q2 _ G0 H1 (.refl rel1.sub) rel1.pen (serves_list z rr hk)⟩⟩
theorem i_range {id : Str} {es : List Expr} (k : Ok X f t W) (hg : Gl X id) (he : id = "range") (hr : elen r = es.length + 1) (hl : es.length ≤ 1) (hs : (x :: es).all notStar = true) (ha : PA X (x :: es) (tL f t W r)) : PI X tg (.Call (.Name id p) (x :: es) [] pos) (iT f t W hd .range r) := by
  subst he
  simp only [List.all_cons, Bool.and_eq_true] at hs
  have hm := k.blt "range" (by decide)
  cases es with
  | nil =>
    refine PIimp (pi_range1 hg hm ha (star_cons hs.1)) fun σ H Q ⟨H0, ρ, st, rel, q⟩ => ?_
    refine ⟨H0, ρ, st, rel, q.step rel fun vs H1 ds st1 G0 g rel1 ra q1 => ?_⟩
    obtain ⟨items, e, q2⟩ := fin_of q1
    have hs := rpL_soft ra
    have hn : ds.length = 1 := by rw [← hs.length, rpL_len ra, hr]; rfl
    change dRange ds = some items at e
    unfold dRange at e
    split at e
    · split at e
      · rename_i hz
        cases e
        obtain ⟨v, rfl, h1⟩ := hs.one
        have e1 := soft_int h1; subst e1
        exact ⟨_, rfl, by omega, by omega, q2 _ G0 H1 (.refl rel1.sub) rel1.pen (serves_range (by rw [sizeLine_eq]; omega))⟩
      · cases e
    · simp at hn
    · cases e
  | cons y es =>
    cases es with
    | cons _ _ => simp at hl
    | nil =>
      simp only [List.all_cons, List.all_nil, Bool.and_true] at hs
      refine PIimp (pi_range2 hg hm ha (by rw [star_cons hs.1, star_cons hs.2]; rfl) (by rw [star_cons hs.2]; rfl)) fun σ H Q ⟨H0, ρ, st, rel, q⟩ => ?_
      refine ⟨H0, ρ, st, rel, q.step rel fun vs H1 ds st1 G0 g rel1 ra q1 => ?_⟩
      obtain ⟨items, e, q2⟩ := fin_of q1
      have hs := rpL_soft ra
      have hn : ds.length = 2 := by rw [← hs.length, rpL_len ra, hr]; rfl
      change dRange ds = some items at e
      unfold dRange at e
      split at e
      · simp at hn
      · split at e
        · rename_i hz
          cases e
          obtain ⟨v, u, rfl, h1, h2⟩ := hs.two
          have e1 := soft_int h1; subst e1
          have e1 := soft_int h2; subst e1
          exact ⟨_, _, rfl, by omega, q2 _ G0 H1 (.refl rel1.sub) rel1.pen (serves_range (by rw [sizeLine_eq]; omega))⟩
        · cases e
      · cases e
theorem rpL_hd {c : Cfg} {a b : VC.E} {vs : List V} {d e : D} {H0 H : Hp} (h : rpL c (.cons a (.cons b .nil)) vs [d, e] H0 H) (na : isBor a = false) (nb : isBor b = false) : ∃ v u, vs = [v, u] ∧ Rep c H0 v d ∧ Rep c H0 u e := by
  obtain ⟨v, vr, d', dr, rfl, e2, h1, u, ur, e', er, rfl, e3, h2, rfl, rfl⟩ := h
  cases e2
  cases e3
  exact ⟨v, u, rfl, rpE_hard na h1, rpE_hard nb h2⟩
theorem i_zip {elts : List Expr} {kk : Nat} {tpos : Pos} (k : Ok X f t W) (hg : Gl X "zip") (n1 : notStar x = true) (n2 : notStar y = true) (hh : hd = true → isBor a = false ∧ isBor b = false) (ha : PA X [x, y] (tL f t W (.cons a (.cons b .nil)))) :
    PI X (.Tuple elts kk tpos) (.Call (.Name "zip" p) [x, y] [] pos) (iT f t W hd .zip (.cons a (.cons b .nil))) := by
  refine PIimp (RZ.pi_zipA hg (k.blt "zip" (by decide)) ha (star_cons n1) (star_any (by simp [n2]))) fun σ H Q ⟨H0, ρ, st, rel, q⟩ => ?_
  refine ⟨H0, ρ, st, rel, q.step rel fun vs H1 ds st1 G0 g rel1 ra q1 => ?_⟩
  obtain ⟨items, e, q2⟩ := fin_of q1
  have hs := rpL_soft ra
  change dZip ds = some items at e
  unfold dZip at e
  rw [k.hK]
  split at e
  · rename_i l m
    cases e
    obtain ⟨v, u, rfl, h1, h2⟩ := hs.two
    have hr : hd = true → Rep f.c G0 v (.lst l) ∧ Rep f.c G0 u (.lst m) := fun e => by
      obtain ⟨v', u', e3, r1, r2⟩ := rpL_hd ra (hh e).1 (hh e).2
      cases e3
      exact ⟨r1, r2⟩
    obtain ⟨p1, vs, rfl, z1, r1, ha1, hk1⟩ := walk_list (hd := hd) rel1.sub rel1.pen h1 fun e => (hr e).1
    obtain ⟨p2, ws, rfl, z2, r2, ha2, hk2⟩ := walk_list (hd := hd) rel1.sub rel1.pen h2 fun e => (hr e).2
    refine ⟨p1, p2, vs, ws, rfl, .inl ⟨.of ha1, .of ha2, q2 _ G0 H1 (.refl rel1.sub) rel1.pen (serves_pair z1 r1 r2 (fun i H0' H' w i1 i2 => ?_) (fun i H0' H' w hi => ?_) (fun i H0' H' v H2 w y => ?_))⟩⟩
    · exact ⟨vs, ws, vs[i], ws[i], .of (hk1 _ _ w), .of (hk2 _ _ w), List.getElem?_eq_getElem i1, List.getElem?_eq_getElem i2⟩
    · exact ⟨vs, ws, .of (hk1 _ _ w), .of (hk2 _ _ w), hi⟩
    · obtain ⟨T, x', y', e1, e2, e3, e4, e5⟩ := y
      exact ⟨T, x', y', e1, e2, e3, e4 _ (.of (hk1 _ _ w)), e5 _ (.of (hk2 _ _ w))⟩
  · rename_i l m
    cases e
    obtain ⟨v, u, rfl, h1, h2⟩ := hs.two
    obtain ⟨p1, vs, rfl, hq1, z1, r1⟩ := soft_tup0 h1
    obtain ⟨p2, ws, rfl, hq2, z2, r2⟩ := soft_tup0 h2
    have k1 : ∀ {H0' H'}, walkR f.c hd G0 H1 H0' H' → SqT f.c.K H' p1 vs := fun {H0' H'} w => same_sqT (walk_fast w).2 (same_sqT (walk_fast w).1 hq1)
    have k2 : ∀ {H0' H'}, walkR f.c hd G0 H1 H0' H' → SqT f.c.K H' p2 ws := fun {H0' H'} w => same_sqT (walk_fast w).2 (same_sqT (walk_fast w).1 hq2)
    refine ⟨p1, p2, vs, ws, rfl, .inr ⟨same_sqT rel1.sub hq1, same_sqT rel1.sub hq2, q2 _ G0 H1 (.refl rel1.sub) rel1.pen (serves_pair z1 r1 r2 (fun i H0' H' w i1 i2 => ?_) (fun i H0' H' w hi => ?_) (fun i H0' H' v H2 w y => ?_))⟩⟩
    · exact ⟨vs, ws, vs[i], ws[i], k1 w, k2 w, List.getElem?_eq_getElem i1, List.getElem?_eq_getElem i2⟩
    · exact ⟨vs, ws, k1 w, k2 w, hi⟩
    · obtain ⟨T, x', y', e1, e2, e3, e4, e5⟩ := y
      exact ⟨T, x', y', e1, e2, e3, e4 _ (k1 w), e5 _ (k2 w)⟩
  · cases e
/-! ### comprehensions -/
abbrev tC (f : Cf) (t : Tab) (W : XK) (e : VC.E) : TT := tM f W boolP (evc t.Phi f.c.F e)
def body (Φ : Fns) (F : Flds) (e c : VC.E) (tg : Tg) (ρ : Env) (d : D) : M (Option D) := match bindTg tg d (wipeD ρ tg.slots) with
  | none => .bad
  | some ρ' => .bind (evc Φ F c ρ') fun t => if t then .bind (ev Φ F e ρ') fun x => .ret (some x) else .ret none
/-- what is left of the turns -/
theorem mapF_ok {g : D → M (Option D)} {d : D} {ds rest : List D} {st st' : PenSt} (h : mapF g (d :: ds) st = .ok rest st') : ∃ o st1 rest', g d st = .ok o st1 ∧ mapF g ds st1 = .ok rest' st' ∧ rest = (match o with | some x => x :: rest' | none => rest') := by
  simp only [mapF, M.bind] at h
  cases e : g d st with
  | ok o st1 =>
    rw [e] at h
    simp only at h
    cases e2 : mapF g ds st1 with
    | ok r st2 =>
      rw [e2] at h
      simp only [M.ret, Res.ok.injEq] at h
      obtain ⟨h1, rfl⟩ := h
      exact ⟨o, st1, r, rfl, e2, h1.symm⟩
    | err x s =>
      rw [e2] at h
      cases h
    | bad =>
      rw [e2] at h
      cases h
  | err x s =>
    rw [e] at h
    cases h
  | bad =>
    rw [e] at h
    cases h
theorem mapF_le {g : D → M (Option D)} : ∀ {ds rest : List D} {st st' : PenSt}, mapF g ds st = .ok rest st' → rest.length ≤ ds.length
  | [], rest, st, st', h => by
    simp only [mapF, M.ret, Res.ok.injEq] at h
    rw [← h.1]
    exact Nat.le_refl _
  | d :: ds, rest, st, st', h => by
    obtain ⟨o, st1, rest', _, h2, rfl⟩ := mapF_ok h
    have := mapF_le h2
    cases o with
    | none => exact Nat.le_succ_of_le this
    | some x => exact Nat.succ_le_succ this
theorem fin_res {U V' : Type} {rp : RP V' U} {H0 H : Hp} {m : M U} {st st' : PenSt} {u : U} {Q : V' → Hp → Prop} (e : m st = .ok u st') (h : ∀ w H0' H', Grow f.c H0 H H0' H' → PenAt f.c H0' H' st' → rp w u H0' H' → Q w H') : Fin f W rp H0 H (m st) Q := by
  rw [e]
  exact h
theorem bind_ok {α β : Type} {m : M α} {k : α → M β} {st st' : PenSt} {y : β} (h : M.bind m k st = .ok y st') : ∃ a st1, m st = .ok a st1 ∧ k a st1 = .ok y st' := by
  unfold M.bind at h
  cases e : m st with
  | ok a s1 =>
    rw [e] at h
    exact ⟨a, s1, rfl, h⟩
  | err x s =>
    rw [e] at h
    cases h
  | bad =>
    rw [e] at h
    cases h
theorem lc_runG {rp : RP V D} {wi : TI} {tt : TT} {te : TE} {e c : VC.E} {tg : Tg} {k : VC.It} (he : isBor e = false) (hwi : wi = iT f t W false k r) (htt : tt = tC f t L2.E0 c) (hte : te = tE f t L2.E0 e) {σ : L2.St} {H : Hp} {Q : VK} (h : tM f W rp (ev t.Phi f.c.F (.comp e tg k r c)) σ H Q)
    (fin : ∀ {H0 G0 H1 H0' H2 : Hp} {D : Addr} {acc : List V} {total : List VC.D} {s1 stF : PenSt}, Same H0 H → Grow f.c H0 H G0 H1 → PenAt f.c G0 H1 s1 → Grow f.c G0 H1 H0' H2 → PenAt f.c H0' H2 stF → H1 D = none → H2 D = some (.lst acc) → H0' D = none → D ≠ f.c.pa → Reps f.c H0' acc total → acc.length ≤ sizeLine →
      (∀ w K0 K, Grow f.c G0 H1 K0 K → PenAt f.c K0 K stF → rp w (.lst total) K0 K → Q w K) → Q (.ref D) H2) : tLc wi (gT f.c.K tg) tt te tg.slots σ H Q := by
  subst hwi htt hte
  obtain ⟨H0, ρ, st, rel, q⟩ := h
  have q : Fin f W rp H0 H (M.bind (M.bind (evs t.Phi f.c.F r ρ) fun l => M.of (dItems k l)) (fun items => .calm (.bind (mapF (body t.Phi f.c.F e c tg ρ) items) fun l => .ret (D.lst l))) st) Q := by
    rw [M.bind_bind]
    exact q
  refine ⟨H0, ρ, st, rel, q.step rel fun J H1 items st1 G0 g rel1 sv q1 D hD => ?_⟩
  -- what the turns give
  obtain ⟨total, stF, ht, q2⟩ : ∃ total stF, mapF (body t.Phi f.c.F e c tg ρ) items st1 = .ok total stF ∧ ∀ w H0' H', Grow f.c G0 H1 H0' H' → PenAt f.c H0' H' stF → rp w (.lst total) H0' H' → Q w H' := by
    unfold M.calm M.bind at q1
    cases em : mapF (body t.Phi f.c.F e c tg ρ) items st1 with
    | ok l s2 =>
      simp only [em, M.ret] at q1
      exact ⟨l, s2, rfl, q1⟩
    | err x s2 =>
      simp only [em] at q1
      exact q1.elim
    | bad =>
      simp only [em] at q1
      exact q1.elim
  have sm1 := rel1.sub
  have hpa : D ≠ f.c.pa := rel1.pen.npa hD
  have g0 : Grow f.c G0 H1 G0 (upd H1 D (.lst [])) := .loose sm1 hD
  refine ⟨fun i m H => m = items.length - i ∧ i ≤ items.length ∧ ∃ (H0' : Hp) (acc : List V) (ds rest : List VC.D) (s : PenSt), Grow f.c G0 H1 H0' H ∧ PenAt f.c H0' H s ∧ H D = some (.lst acc) ∧ H0' D = none ∧ Reps f.c H0' acc ds ∧ acc.length ≤ i ∧ mapF (body t.Phi f.c.F e c tg ρ) (items.drop i) s = .ok rest stF ∧ ds ++ rest = total, ⟨items.length, by simp, Nat.zero_le _, G0, [], [], total, st1, g0, rel1.pen.loose hD, upd_same, sm1.free hD, .nil, Nat.zero_le _, ht, rfl⟩, ?_⟩
  rintro i m H2 ⟨rfl, hi, H0', acc, ds, rest, s, gg, pen, hd2, hd0, ra, hl, hm, htot⟩
  have wk : walkR f.c false G0 H1 H0' H2 := gg
  by_cases hlt : i < items.length
  · refine .inr ⟨sv.go i _ _ wk hlt, fun H' => ∃ (H0' : Hp) (acc : List V) (ds rest : List VC.D) (s : PenSt), Grow f.c G0 H1 H0' H' ∧ PenAt f.c H0' H' s ∧ H' D = some (.lst acc) ∧ H0' D = none ∧ Reps f.c H0' acc ds ∧ acc.length ≤ i + 1 ∧ mapF (body t.Phi f.c.F e c tg ρ) (items.drop (i + 1)) s = .ok rest stF ∧ ds ++ rest = total, fun H' hN => ⟨items.length - (i + 1), by omega, rfl, hlt, hN⟩, fun x H3 y => ?_⟩
    obtain ⟨d, K0, e1, s3, rx⟩ := sv.yld i _ _ _ _ wk gg.sub hlt y
    have edrop : items.drop i = d :: items.drop (i + 1) := by
      rw [List.drop_eq_getElem_cons hlt]
      rw [List.getElem?_eq_getElem hlt] at e1
      cases e1
      rfl
    rw [edrop] at hm
    obtain ⟨o, s4, rest', m1, m2, m3⟩ := mapF_ok hm
    unfold body at m1
    cases eb : bindTg tg d (wipeD ρ tg.slots) with
    | none =>
      simp only [eb] at m1
      cases m1
    | some ρ' =>
      simp only [eb] at m1
      have gk := gg.trans s3.g
      have hd3 : H3 D = some (.lst acc) ∧ K0 D = none := s3.g.old D _ hpa lst_nt hd2 hd0
      have en : EnvOk f.c K0 H3 (L2.wipe σ tg.slots) (wipeD ρ tg.slots) := (rel1.env.grow gk).wipe tg.slots
      refine gT_run s3.g.sub en rx eb fun σ' en' hw => ⟨by rw [hw tg.slots fun _ m => m, wipe_wipe σ _ _ fun _ m => m], ?_⟩
      obtain ⟨tb, s5, t1, t2⟩ := bind_ok m1
      refine ⟨K0, ρ', s, ⟨s3.g.sub, s3.p _ pen, en'⟩, fin_res t1 fun w K1 H4 g4 p4 ew => ?_⟩
      cases ew
      have hd4 : H4 D = some (.lst acc) ∧ K1 D = none := g4.old D _ hpa lst_nt hd3.1 hd3.2
      cases tb with
      | false =>
        simp only [Bool.false_eq_true, if_false, M.ret, Res.ok.injEq] at t2 ⊢
        obtain ⟨rfl, rfl⟩ := t2
        exact ⟨K1, acc, ds, rest', s5, gk.trans g4, p4, hd4.1, hd4.2, ra.mono (s3.g.fast.trans g4.fast), by omega, m2, by rw [← htot, m3]⟩
      | true =>
        simp only [if_true] at t2 ⊢
        obtain ⟨xd, s6, u1, u2⟩ := bind_ok t2
        simp only [M.ret, Res.ok.injEq] at u2
        obtain ⟨rfl, rfl⟩ := u2
        refine ⟨K1, ρ', s5, ⟨g4.sub, p4, en'.grow g4⟩, fin_res u1 fun yv K2 H5 g5 p5 ry => ?_⟩
        rw [rpE_eq he] at ry
        have hd5 : H5 D = some (.lst acc) ∧ K2 D = none := g5.old D _ hpa lst_nt hd4.1 hd4.2
        refine ⟨acc, hd5.1, by have := sv.len; omega, K2, acc ++ [yv], ds ++ [xd], rest', s6, ?_, ?_, upd_same, hd5.2, (ra.mono (s3.g.fast.trans (g4.fast.trans g5.fast))).append (.cons ry .nil), by rw [List.length_append]; simp; omega, m2, by rw [← htot, m3]; simp⟩
        · have g6 := (gk.trans g4).trans g5
          refine ⟨g6.fast, fun a u h => ?_, fun a u n nt h1 h2 => ?_, fun a u nt h => ?_⟩
          · rw [upd_ne (ne_of_none h hd5.2)]
            exact g6.sub _ _ h
          · rw [upd_ne (ne_of_none h1 hD)]
            exact g6.old a u n nt h1 h2
          · rw [upd_ne (ne_of_none h hD)]
            exact g6.dom a u nt h
        · exact p5.change hd5.1 hd5.2
  · have e : i = items.length := by omega
    subst e
    refine .inl ⟨sv.stop _ _ _ wk rfl, ?_⟩
    rw [List.drop_length] at hm
    simp only [mapF, M.ret, Res.ok.injEq] at hm
    obtain ⟨rfl, rfl⟩ := hm
    rw [List.append_nil] at htot
    subst htot
    exact fin rel.sub g rel1.pen gg pen hD hd2 hd0 hpa ra (Nat.le_trans hl sv.len) q2
theorem lc_run {wi : TI} {tt : TT} {te : TE} {e c : VC.E} {tg : Tg} {k : VC.It} (he : isBor e = false) (hwi : wi = iT f t W false k r) (htt : tt = tC f t L2.E0 c) (hte : te = tE f t L2.E0 e) {σ : L2.St} {H : Hp} {Q : VK} (h : tE f t W (.comp e tg k r c) σ H Q) : tLc wi (gT f.c.K tg) tt te tg.slots σ H Q := by
  unfold tE at h
  rw [rpE_eq rfl] at h
  refine lc_runG he hwi htt hte h fun {H0 G0 H1 H0' H2 D acc total s1 stF} sm g p1 gg pen hD hd2 hd0 hpa ra hz q2 => ?_
  refine q2 (.ref D) (upd H0' D (.lst acc)) H2 ⟨fun a u h => ?_, fun a u h => ?_, fun a u n nt h1 h2 => ?_, gg.dom⟩ (pen.fix hd2 hd0) ?_
  · rw [upd_ne (ne_of_none (gg.fast _ _ h) hd0)]
    exact gg.fast _ _ h
  · by_cases ea : a = D
    · subst ea
      rw [upd_same] at h
      cases h
      exact hd2
    · rw [upd_ne ea] at h
      exact gg.sub _ _ h
  · rw [upd_ne (ne_of_none h1 hD)]
    exact gg.old a u n nt h1 h2
  · exact .newL hd0 hz ra
/-! ### a fresh list of one's own -/
def mkP (c : Cfg) (HS : Hp) : RP V D := fun v d H0 H => ∃ p, v = .ref p ∧ NoObj HS p ∧ OwnR c H0 H v d
abbrev tMk (f : Cf) (t : Tab) (W : XK) (e : VC.E) : TE := fun σ H Q => tM f W (mkP f.c H) (ev t.Phi f.c.F e) σ H Q
theorem Grow.noObj {c : Cfg} {H0 H H0' H' : Hp} {p : Addr} (g : Grow c H0 H H0' H') (h : NoObj H' p) : NoObj H p := fun o e => Classical.byContradiction fun hn => by
  obtain ⟨u, nt, hu⟩ := g.dom p o (fun ps z => hn ⟨ps, z⟩) e
  obtain ⟨ps, z⟩ := h u hu
  exact nt ps z
theorem lc_runM {wi : TI} {tt : TT} {te : TE} {e c : VC.E} {tg : Tg} {k : VC.It} (he : isBor e = false) (hwi : wi = iT f t W false k r) (htt : tt = tC f t L2.E0 c) (hte : te = tE f t L2.E0 e) {σ : L2.St} {H : Hp} {Q : VK} (h : tMk f t W (.comp e tg k r c) σ H Q) : tLc wi (gT f.c.K tg) tt te tg.slots σ H Q := by
  refine lc_runG he hwi htt hte h fun {H0 G0 H1 H0' H2 D acc total s1 stF} sm g p1 gg pen hD hd2 hd0 hpa ra hz q2 => ?_
  exact q2 (.ref D) H0' H2 gg pen ⟨D, rfl, g.noObj (.of hD), D, acc, total, rfl, rfl, hd2, hd0, hpa, hz, ra⟩
end
end VC
set_option Elab.async false
set_option linter.all false
set_option maxRecDepth 100000
set_option maxHeartbeats 2000000
/-! VCw: exceptions are caught, by many clauses with one name. -/
namespace VC
open PySem PySem.Spec PyProof.Rows L2
section
variable {X : Cx} {body : List Stmt} {h₀ : ExceptHandler} {hds : List ExceptHandler} {l : List (Value × TSX)} {pos : Pos} {tb : WX → TS} {Wout : WX} {n : Str} {i : Nat}
/-- the clauses, from one on -/
theorem clauses_run (hs : X.stack = X.env :: X.outer) (hf : X.env.frame = some X.env.locals) (hN : X.N.Nodup) (hi : X.N[i]? = some n) (hln : X.env.kindOf n = some .local) (tk : Takes X Wout) {D : Ends} {pins : List (Addr × Obj)} {a : Addr} {B : Heap} {sI s' : Shared} {σ' : L2.St} {H' : Hp} {cls : Value} {d : Option Addr} {h3 : Heap}
    (J : Inv X pins σ' H' sI) (nb : ∀ b o, sI.heap.get? b = some o → b ∉ frs X.stack → B.get? b = some o) (up : sI.heap.UpToSlots s'.heap) (up3 : s'.heap.UpToSlots h3) (fl3 : HandSPX.FlyingZ B (X.env :: X.outer) a (Zc cls d) h3) (na : H' a = none) (os : s'.os = sI.os) (ag : AllBare s'.gens) (nL : a ≠ X.env.locals) (nF : a ∉ X.fs) :
    ∀ {hds' : List ExceptHandler} {l' : List (Value × TSX)}, HdsA X n hds' l' → wAll X.K i Wout D l' cls d σ' H' → wpAny (model X.prog X.w) X.A (handleBy (.ref a) X.env hds') (SP X pins D) X.xe { s' with heap := h3 } := by
  have J3 : Inv X pins σ' H' { s' with heap := h3 } := J.landed nb fl3.1 (up.trans up3) os ag
  obtain ⟨oe3, vs3, he3, hz3, hd3⟩ := fl3.there
  have S3 := J3.suite he3 hd3 na nL nF
  intro hds' l' hk
  induction hk with
  | nil =>
    intro w
    refine wpAny_handleBy_nil ?_
    obtain ⟨k1, k2, k3, oe, vs, T, oT, ts', he, hz, hd, h1, hr⟩ := id fl3
    unfold PySem.passOn
    refine wpAny_bind (wpAny_field he hd h1 ?_)
    rw [if_neg (show ¬ ((Value.ref T == Value.none) = true) from by simp)]
    have fin : wpAny (model X.prog X.w) X.A (setFlight (.ref a) X.env.frame) (fun _ s4 => wpAny (model X.prog X.w) X.A (throw (.ref a) : Sem PySem.Flow) (SP X pins D) X.xe s4) X.xe { s' with heap := h3 } := by
      rw [hf]
      exact HandSPX.setFlight_upZ fl3 fun h4 hh4 up4 => wpAny_throw (tk _ _ ⟨a, B, sI, pins, σ', H', cls, d, rfl, J, nb, (up.trans up3).trans up4, .inr (.inr (by rw [hs]; exact hh4)), na, os, ag, w⟩)
    first | exact wpAny_bind (wpAny_pure (wpAny_bind fin)) | exact wpAny_bind fin
  | @cons x c ts b₀ su np pos' hds2 l2 hc hsu r ih =>
    intro w
    obtain ⟨b, hb1, hyes, hno⟩ := w
    refine wpAny_handleBy_cons (codeAny_handlers_test ?_) (by intro q; cases q)
    have LT : PySem.W.Looks (model X.prog X.w) h3 (typeOf (.ref a)) cls := fun A Q E s k q => wpAny_typeOf_ref (k _ _ he3) (by rw [hz3.1]; exact q)
    have test : ∀ {Q : Value → Shared → Prop} {E : Value → Shared → Prop}, Q c { s' with heap := h3 } → wpAny (model X.prog X.w) (X.A.mark (some (.ref a))) (eval (.Name x np) X.env) Q E { s' with heap := h3 } := fun {Q E} q => by
      obtain ⟨hg, hdbg, hm | ⟨hm, hv, hnn⟩⟩ := hc
      · exact ld_glob (X := X.suite a ((a, oe3) :: (X.pn ++ pins))) S3 hg hm q hdbg
      · exact ld_blt (X := X.suite a ((a, oe3) :: (X.pn ++ pins))) S3 hg hm hv q hnn hdbg
    refine test ((PySem.W.exm_one (M := model X.prog X.w) J3.kIn LT hb1).here ?_)
    cases b with
    | false => exact ih (hno rfl)
    | true =>
      refine codeAny_handlers_suite_as (HandSPX.lands_againZ fl3 fun h4 fl4 up4 => ?_)
      have J4 : Inv X pins σ' H' { s' with heap := h4 } := J.landed nb fl4.1 ((up.trans up3).trans up4) os ag
      obtain ⟨oe4, vs4, he4, hz4, hd4⟩ := fl4.there
      refine store_ok (X := X.suite a ((a, oe4) :: (X.pn ++ pins))) (v := .ref a) (J4.suite he4 hd4 na nL nF) hN hi (.inl hln) rfl (fun s5 S5 => ?_) (.inr hln)
      refine wpAny_mono ((hsu a oe4 cls d (X.pn ++ pins) hz4 ⟨_, hd4⟩).run [] s5 _ H' _ S5 (hyes rfl a na)) (fun f s6 hsp => ?_) (fun _ _ z => False.elim z)
      have out : ∀ {σ6 : L2.St} {H6 : Hp} {Q : Shared → Prop}, Inv (X.suite a ((a, oe4) :: (X.pn ++ pins))) [] σ6 H6 s6 → (∀ s7, Inv X pins (σ6.set i none) H6 s7 → Q s7) → wpAny (model X.prog X.w) X.A (do bindName X.env n .none; unbindBehindTheSuite X.env n pos') (fun _ s7 => Q s7) X.xe s6 :=
        fun {σ6 H6 Q} S6 hq => gone_ok (S6.unsuite J.ok) hN hi hln hq
      cases f with
      | ret u =>
        obtain ⟨v6, σ6, H6, S6, r6, q6⟩ := hsp
        exact out S6 fun s7 J7 => ⟨_, _, _, J7, r6, q6⟩
      | next =>
        obtain ⟨σ6, H6, S6, q6⟩ := hsp
        exact out S6 fun s7 J7 => ⟨_, _, J7, q6⟩
      | brk =>
        obtain ⟨σ6, H6, S6, q6⟩ := hsp
        exact out S6 fun s7 J7 => ⟨_, _, J7, q6⟩
      | cont =>
        obtain ⟨σ6, H6, S6, q6⟩ := hsp
        exact out S6 fun s7 J7 => ⟨_, _, J7, q6⟩
theorem ps_try_all (hs : X.stack = X.env :: X.outer) (hf : X.env.frame = some X.env.locals) (hN : X.N.Nodup) (hi : X.N[i]? = some n) (hln : X.env.kindOf n = some .local) (tk : Takes X Wout)
    (hb : ∀ (W : WX) (pn : List (Addr × Obj)) (xe : Value → Shared → Prop), Takes (X.tr pn xe) W → PassesOwn (model X.prog X.w) X.A X.env xe → PSs (X.tr pn xe) body (tb W)) (hh : HdsA X n (h₀ :: hds) l) : PS X (.Try body (h₀ :: hds) [] [] pos) (fun D σ H => tb (wAll X.K i Wout D l) D σ H) := by
  constructor
  intro pins s σ H D I h
  have ok := I.ok
  refine wpAny_Try_except (wpAny_mono ((hb (wAll X.K i Wout D l) (X.pn ++ pins) (fun e s₁ => wpAny (model X.prog X.w) X.A (noteFrame e X.env) (fun _ s₂ => wpAny (model X.prog X.w) X.A (setFlight e none) (fun _ s₃ => wpAny (model X.prog X.w) X.A (handleBy e X.env (h₀ :: hds)) (SP X pins D) X.xe s₃) X.xe s₂) X.xe s₁) (fun u s' xx => ?_) PassesOwn.looking).run [] s σ H D (I.toTry _) h) (fun f s1 hsp => ?_) (fun e s1 he => he))
  · obtain ⟨a, B, sI, pins', σ', H', cls, d, rfl, J', nb, up, sky, na, os, ag, w⟩ := xx
    have J : Inv X pins σ' H' sI := J'.ofTry ok
    refine Sky.land Zc.steady (by rw [ok.frames, hs]) hf (by rw [← hs]; exact sky) fun h3 fl3 up3 => ?_
    obtain ⟨oe3, vs3, he3, hz3, hd3⟩ := fl3.there
    have nfr : a ∉ frs (X.env :: X.outer) := fun hm => by
      obtain ⟨_, o', e', hnf⟩ := fl3.2.2.1.mem hm
      rw [he3] at e'
      cases e'
      exact hnf _ hd3
    exact clauses_run hs hf hN hi hln tk J nb up up3 fl3 na os ag (fun z => nfr (List.mem_filterMap.mpr ⟨X.env, List.mem_cons_self, by rw [hf, z]⟩)) (fun hm => by
      obtain ⟨e, he, q⟩ := List.mem_filterMap.mp hm
      exact nfr (List.mem_filterMap.mpr ⟨e, List.mem_cons_of_mem _ he, q⟩)) hh w
  · cases f with
    | next =>
      obtain ⟨σ', H', J', q⟩ := hsp
      exact wpAny_execs_nil ⟨σ', H', J'.ofTry ok, q⟩
    | ret u =>
      obtain ⟨v, σ', H', J', r, q⟩ := hsp
      exact ⟨v, σ', H', J'.ofTry ok, r, q⟩
    | brk =>
      obtain ⟨σ', H', J', q⟩ := hsp
      exact ⟨σ', H', J'.ofTry ok, q⟩
    | cont =>
      obtain ⟨σ', H', J', q⟩ := hsp
      exact ⟨σ', H', J'.ofTry ok, q⟩
/-! ### a field of a caught exception -/
structure CatchAt (K : PySem.W.Frag) (C : Addr) : Prop where
  ga : PySem.W.findIn K (.ref C) "__getattribute__" = some (some (.builtin "BaseException.__getattribute__"))
  gg : PySem.W.findIn K (.ref C) "__getattr__" = some none
  exC : PySem.W.subIn K (.ref C) (.type "BaseException") = some true
  hdC : PySem.W.hasDictIn K C = true
theorem pe_xfld {C a : Addr} {oe : Obj} {cls : Value} {d : Option Addr} {pn : List (Addr × Obj)} {e : Expr} {te : TE} {g : Str} (T : CatchAt X.K C) (hno : PySem.W.findIn X.K (.ref C) g = some none) (hz : Zc cls d oe) (hf : ∃ vs, oe.data = .fields vs) (he : PE (X.suite a ((a, oe) :: pn)) e te) (hb : attributeBase e g X.env (eval e X.env) = eval e X.env) :
    PE (X.suite a ((a, oe) :: pn)) (.Attribute e g pos) (tXf C a cls d g te) := by
  constructor
  intro pins s σ H Q I h
  refine attr_of hb (thn (he.run pins s σ H _ I h) fun u s1 hh => ?_)
  obtain ⟨x, H1, I1, rx, ex, ec, dd, fs, v, ed, ea, l, q⟩ := hh
  subst ex ec ed
  have hu : u = Value.ref a := rx
  subst hu
  obtain ⟨ha, _⟩ := I1.pin (a, oe) (List.mem_append_left _ List.mem_cons_self)
  obtain ⟨vs, hd⟩ := hf
  have hx : ObjOk X.prog X.w H1 s1.heap dd (.xd fs) := I1.hok dd _ ea
  obtain ⟨mA, hns, hr⟩ := hx
  obtain ⟨od, ho, hl⟩ := lookIn_ns hns
  obtain ⟨u, hu, ru⟩ := RelO.some_of (v := v) (o := mA g) (by rw [← l]; exact hr g)
  exact HandSPX.exc_get I1.kIn ⟨ha, hz.1, by unfold PySem.W.notCls; rw [hd] <;> rfl, by rw [hz.2]; exact ho⟩ T.ga T.gg T.exC (PySem.W.findObj_own T.hdC hno rfl (by rw [hl, hu])) (handed_of ru) ⟨v, H1, I1.tok _, ru, q⟩
end
end VC
set_option Elab.async false
set_option linter.all false
set_option maxRecDepth 100000
set_option maxHeartbeats 2000000
/-! VCx: lambdas made, kept, called by the def that catches. -/
namespace VC
open PySem PySem.Spec PyProof.Rows L2
theorem flds_run {C a : Addr} {cls : Value} {dd : Addr} {fs : List (Str × V)} {σ : L2.St} {H : Hp} (hc : cls = .ref C) (h1 : σ[1]? = some (some (.ref a))) (hd : H dd = some (.xd fs)) : ∀ {gs : List String} {vs : List V} {Q : List V → Hp → Prop}, gs.length = vs.length → (∀ (j : Nat) g v, gs[j]? = some g → vs[j]? = some v → fs.lookup (Str.ofString g) = some v) → Q vs H → tFlds C a cls (some dd) gs σ H Q
  | [], [], Q, _, _, q => q
  | g :: gs, v :: vs, Q, hl, hf, q => ⟨_, h1, rfl, hc, dd, fs, v, rfl, hd, hf 0 g v rfl rfl, flds_run hc h1 hd (by simpa using hl) (fun j g v e1 e2 => hf (j + 1) g v (by simpa using e1) (by simpa using e2)) q⟩
  | [], _ :: _, _, hl, _, _ => by cases hl
  | _ :: _, [], _, hl, _, _ => by cases hl
theorem clauses_read {f : Cf} {K : PySem.W.Frag} {cs : List (Nat × String)} {Wout : WX} {D' : Ends} {cls : Value} {d : Option Addr} {σ : L2.St} {H0 H : Hp} {st : PenSt} {e : Err} {Q : VK} (hσ : 1 < σ.length) (sm : Same H0 H) (pen : PenAt f.c H0 H st) (ea : ErrAt f.c H0 H f.ec e cls d) (hD : D'.rt = Q) (hexm : ∀ p ∈ cs, PySem.W.exmOne K (.ref (f.ec e.c)) (.ref (f.ec p.1)) = some (decide (e.c = p.1))) (few : (f.c.F (1000 + e.c)).length ≤ 100)
    (htag : ∃ tag, (∀ p ∈ cs, p.1 = e.c → p.2 = tag) ∧ (∃ p ∈ cs, p.1 = e.c) ∧ ∀ v H0' H', Grow f.c H0 H H0' H' → PenAt f.c H0' H' st → Rep f.c H0' v (.tup (.str (Str.ofString tag) :: e.l)) → Q v H') : wAll K 1 Wout D' (clausesOf f cs) cls d σ H := by
  obtain ⟨hcls, dx, fs, vs, rfl, hx, hx0, hxp, fl, rr⟩ := ea
  subst hcls hD
  induction cs with
  | nil =>
    obtain ⟨tag, _, ⟨p, hp, _⟩, _⟩ := htag
    cases hp
  | cons p cs ih =>
    refine ⟨decide (e.c = p.1), hexm p List.mem_cons_self, fun hb a na => ?_, fun hb => ?_⟩
    · have hb : e.c = p.1 := of_decide_eq_true hb
      obtain ⟨tag, ht, _, q⟩ := htag
      have hp2 := ht p List.mem_cons_self hb.symm
      rw [← hb, hp2]
      have h1 : (σ.set 1 (some (.ref a)))[1]? = some (some (.ref a)) := List.getElem?_set_self hσ
      refine flds_run rfl h1 hx fl.1 fl.2 ⟨size_le (by rw [List.length_cons, ← fl.1]; omega), fun np nn => ?_⟩
      exact q (.ref np) (upd H0 np (.tup (.str (Str.ofString tag) :: vs))) _ (.new sm nn) (pen.new sm nn) (.newT (sm.free nn) (size_le (by rw [List.length_cons, ← fl.1]; omega)) (.cons (.str _) rr))
    · have hb : e.c ≠ p.1 := of_decide_eq_false hb
      refine ih (fun p' hp' => hexm p' (List.mem_cons_of_mem _ hp')) ?_
      obtain ⟨tag, ht, ⟨p', hp', e1⟩, q⟩ := htag
      refine ⟨tag, fun p'' hp'' => ht p'' (List.mem_cons_of_mem _ hp''), ⟨p', ?_, e1⟩, q⟩
      rcases List.mem_cons.mp hp' with rfl | h
      · exact absurd e1.symm hb
      · exact h
theorem evn_at {Φ : Fns} {F : Flds} {ρ : Env} : ∀ {bs e : VC.E} {k : Nat}, nthE bs k = some e → evn Φ F bs k ρ = ev Φ F e ρ := by
  intro bs
  induction bs with
  | cons a r _ ih =>
    intro e k h
    cases k with
    | zero =>
      cases h
      simp only [evn]
    | succ k =>
      simp only [evn]
      exact ih h
  | _ =>
    intro e k h
    cases h
/-- what a lambda's making leaves -/
theorem lam_grow {c : Cfg} {H0 H G0 G : Hp} {σ : L2.St} {ρ : Env} {st : PenSt} (rel : Rel c H0 H σ ρ st) (e1 : Same H0 G0) (e2 : Same G0 G) (nt : ∀ a ps, G0 a ≠ some (.tbl ps)) (eN : LamX.ExtN H G) (e0 : ∀ b u, H b = some u → H0 b = none → G0 b = none) (T : TabsF c.tabs G0 G) : Grow c H0 H G0 G ∧ PenAt c G0 G st := by
  refine ⟨⟨e1, e2, fun b u _ n hb h0 => ⟨eN b u hb n, e0 b u hb h0⟩, fun b u n hb => ⟨u, n, eN b u hb n⟩⟩, ?_⟩
  obtain ⟨⟨p0, p1, p2⟩, _, _⟩ := rel.pen
  exact ⟨⟨e0 _ _ p1 p0, eN _ _ p1 (fun ps z => by cases z), e1 _ _ p2⟩, T, nt⟩
/-! ### a lambda is made -/
section
variable {X : Cx} {pins : List (Addr × Obj)} {σ : L2.St} {H0 H : Hp} {s : Shared}
abbrev lamOb (X : Cx) (params : Arguments) (body : Expr) (scope : Scope) (pm : Value) (c' : Addr) (ctv : Value) : Obj := PySem.W.kla_obj "<lambda>" (X.env.qual ++ "<lambda>") params body scope (cloFrom X.env.cells scope.names []) pm c' ctv
theorem among_snoc {l : List Value} {pos p' : Pos} {c' : Addr} {cv : Value} (h : TriplesOk l) (e : codeAmong p' (l ++ [rawInt pos.line, rawInt pos.col, .ref c']) = some cv) : codeAmong p' l = some cv ∨ cv = .ref c' := LamX.among_app l h e
/-- its object stands fast, so does its code's -/
theorem lam_fast {T : List (Addr × Str)} {cA P : Addr} {params : Arguments} {body : Expr} {scope : Scope} {pos : Pos} {E Q : Value → Shared → Prop} (I : Inv X pins σ H s) (TB : LamX.TabB X.base X.mg cA P) (hcode : X.env.code = .ref cA)
    (hm : (P, X.env.qual ++ "<lambda>") ∈ T) (hu : ∀ p ∈ T, p.1 = P → p.2 = X.env.qual ++ "<lambda>") (sm : Same H0 H) (nt : ∀ a ps, H0 a ≠ some (.tbl ps)) (hT : TabsF T H0 H) (hdef : defaultsOf params X.env = ([], [])) (hfree : ∀ y ∈ scope.names, y.2 = .free → ∃ c, X.env.cells.lookup y.1 = some c)
    (k : ∀ (l c' : Addr) (pm ctv : Value) (G0 G : Hp) (s' : Shared), Inv X pins σ G s' → Same H0 G0 → Same G0 G → (∀ a ps, G0 a ≠ some (.tbl ps)) → LamX.ExtN H G → (∀ b u, H b = some u → H0 b = none → G0 b = none) → TabsF T G0 G →
      G0 l = some (FnO l (lamOb X params body scope pm c' ctv)) → G0 c' = some (LamX.CodeO c' (X.env.qual ++ "<lambda>")) → Q (.ref l) s') : wpAny (model X.prog X.w) X.A (eval (.Lambda params body scope pos) X.env) Q E s := by
  obtain ⟨ps, hP, hps, hin⟩ := hT _ hm
  have bP : s.heap.BuiltinsAt X.mg P := TB.bm.keeps I.bk
  have oP : s.heap.get? P = some { cls := .none, data := .fields ps } := I.hok P _ hP
  have P0 : H0 P = none := by
    cases e : H0 P with
    | none => rfl
    | some u =>
      have := sm _ _ e
      rw [hP] at this
      cases this
      exact absurd e (nt _ _)
  have lay : ∀ {G : Hp} {h' : Heap} {t' : Nat} (ob : Obj), ob.isFreed = false → Inv X pins σ G { s with heap := h', toks := t' } → Inv X pins σ (upd G h'.objs.size (FnO h'.objs.size ob)) { s with heap := h'.push ob, toks := t' } := fun {G h' t'} ob nf J => by
    have e : (h'.push ob).get? h'.objs.size = some ob := Heap.get?_push_size _ nf
    exact J.laid (t' := t') (a := h'.objs.size) (o := FnO h'.objs.size ob) (h' := h'.push ob) (fun b u z => Heap.get?_push_of_some _ z) (Nat.le_refl _) ⟨e, ⟨_, e⟩, fun h1 h2 f g => g _ f⟩
  refine PySem.W.kla_eval hdef ?_
  cases hc : codeAmong pos ps.toList with
  | some cv =>
    obtain ⟨c', rfl, hco⟩ := hin pos cv hc
    refine PySem.W.kla_makeFunctionHit (mg := X.mg) (c := cA) (P := P) (ps := ps) (closure_ok hfree) I.ok.glob (I.mod.glob.keeps I.bk) hcode (TB.code.keeps I.bk) oP hps hc bP fun ctv h' tk hx hsz => ?_
    have J : Inv X pins σ H { s with heap := h', toks := tk } := I.kept hx
    have nl : H h'.objs.size = none := I.hok.fresh hsz
    have nl0 : H0 h'.objs.size = none := sm.free nl
    refine k h'.objs.size c' ((X.mg "__name__").getD .none) ctv (upd H0 h'.objs.size (FnO _ _)) _ _ (lay _ rfl J) (fun b u e => by rw [upd_ne (ne_of_none e nl0)]; exact e) (fun b u e => ?_) (fun b qs e => ?_) (fun b u e _ => by rw [upd_ne (ne_of_none e nl)]; exact e) (fun b u e z => by rw [upd_ne (ne_of_none e nl)]; exact z)
      (hT.ext (fun b u e => by rw [upd_ne (ne_of_none e nl0)]; exact e) fun b qs e => by rw [upd_ne (ne_of_none e nl)]; exact e) upd_same (by rw [upd_ne (ne_of_none hco nl0)]; exact hco)
    · by_cases z : b = h'.objs.size
      · subst z
        rw [upd_same] at e ⊢
        exact e
      · rw [upd_ne z] at e ⊢
        exact sm _ _ e
    · by_cases z : b = h'.objs.size
      · subst z
        rw [upd_same] at e
        cases e
      · rw [upd_ne z] at e
        exact nt _ _ e
  | none =>
    refine PySem.W.kla_makeFunction (mg := X.mg) (c := cA) (P := P) (ps := ps) (closure_ok hfree) I.ok.glob (I.mod.glob.keeps I.bk) hcode (TB.code.keeps I.bk) oP hps hc TB.gP bP fun c' ctv h' tk hx hge hlt hrec htb => ?_
    obtain ⟨c2, oc, vs, t, e2, hoc, hd, hv⟩ := hrec
    cases e2
    have hsz : s.heap.objs.size ≤ h'.objs.size := Nat.le_trans hge (Nat.le_of_lt hlt)
    have nc : H c' = none := I.hok.fresh hge
    have nc0 : H0 c' = none := sm.free nc
    have nl : H h'.objs.size = none := I.hok.fresh hsz
    have nl0 : H0 h'.objs.size = none := sm.free nl
    have lc : h'.objs.size ≠ c' := Nat.ne_of_gt hlt
    have lP : h'.objs.size ≠ P := Nat.ne_of_gt (Nat.lt_of_lt_of_le (Heap.lt_size oP) hsz)
    have cP : P ≠ c' := ne_of_none hP nc
    have J := LamX.inv_table (t' := tk) (more := #[rawInt pos.line, rawInt pos.col, .ref c']) (h' := h') (q := X.env.qual ++ "<lambda>") I hP hx htb hge ⟨oc, vs, t, hoc, hd, hv⟩
    have up : ∀ b u, H b = some u → b ≠ P → upd (upd (upd H P (.tbl (ps ++ #[rawInt pos.line, rawInt pos.col, .ref c']))) c' (LamX.CodeO c' (X.env.qual ++ "<lambda>"))) h'.objs.size (FnO h'.objs.size (lamOb X params body scope ((X.mg "__name__").getD .none) c' ctv)) b = some u := fun b u e z => by
      rw [upd_ne (ne_of_none e nl), upd_ne (ne_of_none e nc), upd_ne z]
      exact e
    have up0 : ∀ b u, H0 b = some u → upd (upd H0 c' (LamX.CodeO c' (X.env.qual ++ "<lambda>"))) h'.objs.size (FnO h'.objs.size (lamOb X params body scope ((X.mg "__name__").getD .none) c' ctv)) b = some u := fun b u e => by
      rw [upd_ne (ne_of_none e nl0), upd_ne (ne_of_none e nc0)]
      exact e
    refine k h'.objs.size c' ((X.mg "__name__").getD .none) ctv (upd (upd H0 c' (LamX.CodeO c' (X.env.qual ++ "<lambda>"))) h'.objs.size (FnO _ _)) _ _ (lay _ rfl J) up0 (fun b u e => ?_) (fun b qs e => ?_) (fun b u e n => up b u e fun z => n ps (by rw [z, hP] at e; exact (Option.some.inj e).symm)) (fun b u e z => by rw [upd_ne (ne_of_none e nl), upd_ne (ne_of_none e nc)]; exact z) (fun p hp => ?_) upd_same (by rw [upd_ne (Ne.symm lc), upd_same])
    · by_cases z : b = h'.objs.size
      · subst z
        rw [upd_same] at e ⊢
        exact e
      · rw [upd_ne z] at e ⊢
        by_cases z2 : b = c'
        · subst z2
          rw [upd_same] at e ⊢
          exact e
        · rw [upd_ne z2] at e ⊢
          rw [upd_ne (ne_of_none e P0)]
          exact sm _ _ e
    · by_cases z : b = h'.objs.size
      · subst z
        rw [upd_same] at e
        cases e
      · rw [upd_ne z] at e
        by_cases z2 : b = c'
        · subst z2
          rw [upd_same] at e
          exact LamX.codeO_ne _ (Option.some.inj e)
        · rw [upd_ne z2] at e
          exact nt _ _ e
    · by_cases z : p.1 = P
      · rw [hu p hp z, z]
        have eL : (ps ++ #[rawInt pos.line, rawInt pos.col, .ref c']).toList = ps.toList ++ [rawInt pos.line, rawInt pos.col, .ref c'] := by simp
        refine ⟨_, by rw [upd_ne (Ne.symm lP), upd_ne cP, upd_same], by rw [eL]; exact PySem.TriplesOk_snoc _ _ _ _ hps, fun p' cv hcv => ?_⟩
        rw [eL] at hcv
        rcases among_snoc hps hcv with y | y
        · obtain ⟨c0, e1, e2⟩ := hin p' cv y
          exact ⟨c0, e1, up0 _ _ e2⟩
        · exact ⟨c', y, by rw [upd_ne (Ne.symm lc), upd_same]⟩
      · obtain ⟨qs, a1, a2, a3⟩ := hT p hp
        refine ⟨qs, up _ _ a1 z, a2, fun p' cv hcv => ?_⟩
        obtain ⟨c0, e1, e2⟩ := a3 p' cv hcv
        exact ⟨c0, e1, up0 _ _ e2⟩
end
/-! ### the lambda is called in the def that got it -/
section
variable {X : Cx} {pins : List (Addr × Obj)} {σ : L2.St} {H : Hp} {s : Shared}
theorem act' {CXg : CXT} {Eg : XK} {Ng : List Str} {qg : Str} {sg : Scope} {g l c' : Addr} {cdg pm ctv : Value} {params : Arguments} {body : Expr} {scope : Scope} {k i : Nat} {a : Str} {pn : List (Addr × Obj)} {xe : Value → Shared → Prop} {W : WX} {E : XK} {tb : TE} {p1 p2 : Pos} {φ : Heap → Prop}
    (I : Inv X pins σ H s) (L : LamX.LamS X.env.scope scope) (hφ : ∀ h, φ h → h.get? l = some (lamOb X params body scope pm c' ctv))
    (hbind : bindArgs (PySem.W.kla_fn "<lambda>" (X.env.qual ++ "<lambda>") params body scope (cloFrom X.env.cells scope.names []) pm (.ref c') ctv) ⟨[], []⟩ = pure []) (tk : Takes ((cxOf CXg X.prog X.w X.K X.mg X.base Ng qg sg g cdg X.A X.stack s H Eg).tr pn xe) W) (hW : ∀ cls d σ' H', E cls d H' → W cls d σ' H')
    (hr : Room (k + 1) (X.A.deeper (envOfC qg sg s.heap.objs.size g cdg))) (hbody : ∀ (A : Around) (outer : List PySem.Env) (s : Shared) (H : Hp), A.guards = X.A.guards → Room k (A.deeper (LamX.lamEnv X scope s.heap.objs.size l c')) → PE (LamX.lamCx X A outer s H E scope l c') body tb) (hN : Ng[i]? = some a) (hv : Vis sg a) (hd : (a == ("__debug__" : Str)) = false) (hcd : (a == ("__classdict__" : Str)) = false) :
    PE ((cxOf CXg X.prog X.w X.K X.mg X.base Ng qg sg g cdg X.A X.stack s H Eg).tr pn xe) (.Call (.Name a p1) [] [] p2) (fun σZ HZ Q => σZ[i]? = some (some (.ref l)) ∧ HZ l = some (.ext φ) ∧ HZ c' = some (LamX.CodeO c' (X.env.qual ++ "<lambda>")) ∧ tb σ HZ Q) := by
  constructor
  intro pinsZ sZ σZ HZ Q IZ h
  obtain ⟨hs, hl, hc, ht⟩ := h
  refine wpAny_Call_Name_kw (thn ((pe_var (pos := p1) (i := i) hN hv hd hcd).run pinsZ sZ σZ HZ (fun v H1 => v = .ref l ∧ H1 = HZ) IZ ⟨.ref l, hs, rfl, rfl⟩) fun u s1 hu => ?_)
  obtain ⟨v, H1, I1, r1, ev, eH⟩ := hu
  subst ev
  rw [eH] at I1
  have hu : u = Value.ref l := r1
  subst hu
  have ok1 : ObjOk _ _ HZ s1.heap l (.ext φ) := I1.hok l _ hl
  have at1 := hφ _ ok1.1
  obtain ⟨⟨oc, vs, t, hoc, hdc, hvc⟩, _, _⟩ := I1.hok c' _ hc
  refine PySem.W.callWith_F0 ⟨_, _, _, _, at1⟩ (wpAny_call (codeAny_mono (R := CR (L2.CX X.prog X.w) (envOfC qg sg s.heap.objs.size g cdg :: X.stack) X.prog X.w HZ s1 Q E) ?_ fun r s' hq => ?_))
  · show codeAny _ _ (.call (.ref l) ⟨[], []⟩) _ _
    refine PySem.W.kla_callFunE hr.depth at1 rfl L.co L.gen rfl ⟨c', oc, vs, t, rfl, hoc, hdc, hvc⟩ ?_
    rw [hbind]
    refine wpAny_pure (wpAny_newFunctionEnv (fun y hy => (L.own y hy).2) (fun y hy => absurd hy (by simp)) (fun h₁ hns hsb => ⟨I1.nolimit.fresh _ hsb, ?_⟩) L.kind)
    have J := LamX.lam_start2 (X := X) (A := X.A.deeper (envOfC qg sg s.heap.objs.size g cdg)) (outer := envOfC qg sg s.heap.objs.size g cdg :: X.stack) (E := E) (f := l) (c' := c') (tk := s1.toks + ([] : List (Str × Value)).length) I L I1.env0 hr.hd I1.base hns fun b o e => hsb.extBut b o (Nat.ne_of_lt (Heap.lt_size e)) (Heap.get?_push_of_some _ e)
    show codeAny _ _ (.expr body (LamX.lamEnv X scope s1.heap.objs.size l c')) _ _
    refine PySem.W.kla_codeExpr (wpAny_mono ((hbody (X.A.deeper (envOfC qg sg s.heap.objs.size g cdg)) (envOfC qg sg s.heap.objs.size g cdg :: X.stack) s1 HZ rfl (hr.deeper _)).run [] _ _ HZ Q J ht) (fun v s' hq => ?_) fun e s' hq => hq)
    obtain ⟨w', H', J', rv, q⟩ := hq
    exact ⟨w', H', J'.os, J'.bare, J'.base, J'.hok, rv, q⟩
  · cases r with
    | error e => exact passes_call tk hW pinsZ σZ HZ s1 e s' I1 hq
    | ok fl =>
      cases fl with
      | ret u => exact I1.after hq
      | next => exact False.elim hq
      | brk => exact False.elim hq
      | cont => exact False.elim hq
end
/-! ### the def that catches -/
theorem takesLen {X : Cx} {W : WX} (t : Takes X W) : Takes X (fun cls d σ H => σ.length = X.N.length → W cls d σ H) := fun u s' ⟨a, B, sI, pins, σ, H, cls, d, e, I, nb, up, sky, na, os, ag, w⟩ => t u s' ⟨a, B, sI, pins, σ, H, cls, d, e, I, nb, up, sky, na, os, ag, w I.len⟩
section
variable {X : Cx} {f : Cf} {t : Tab} {W : XK} {e : VC.E} {body : Expr} {params : Arguments} {scope : Scope} {x a n : Str} {g cAd P : Addr} {cdg : Value} {sg : Scope} {bg : List Stmt} {cs : List (Nat × String)} {k : Nat} {pg : Arguments} {dV kV doc pm ct oc : Value} {an od : Option Addr} {osl : Array (Option Value)} {p lpos pos : Pos}
/-- the catching def, called with a lambda of this context's -/
theorem catch_core {pins : List (Addr × Obj)} {s' : Shared} {σ : L2.St} {H0 H1 : Hp} {ρ : Env} {st : PenSt} {Q : VK} {l c' : Addr} {pm' ctv : Value} {φ : Heap → Prop} (lk : X.K.lookup g = some ⟨oc, od, .func (PySem.W.fnOf x x pg bg sg dV kV doc pm an cdg ct), osl⟩) (hcg : PySem.W.codeIn X.K cdg x = true)
    (hb : L2.Binds X.K (PySem.W.fnOf x x pg bg sg dV kV doc pm an cdg ct) [a] []) (C : Catcher X f x g cdg sg bg a n cs) (T : Tags f X.K cs) (hr : Room (k + 2) X.A) (L : LamX.LamS X.env.scope scope)
    (hbind : ∀ (q : Str) (cl : List (Str × Addr)) (pm cv ctv : Value), bindArgs (PySem.W.kla_fn "<lambda>" q params body scope cl pm cv ctv) ⟨[], []⟩ = pure []) (hbody : ∀ (A : Around) (outer : List PySem.Env) (s : Shared) (H : Hp) (E : XK) (l c' : Addr), A.guards = X.A.guards → Room k (A.deeper (LamX.lamEnv X scope s.heap.objs.size l c')) → PE (LamX.lamCx X A outer s H E scope l c') body (tE f t E e))
    (I1 : Inv X pins σ H1 s') (rel1 : Rel f.c H0 H1 σ ρ st) (hl : H0 l = some (.ext φ)) (hφ : ∀ h, φ h → h.get? l = some (lamOb X params body scope pm' c' ctv)) (hco : H0 c' = some (LamX.CodeO c' (X.env.qual ++ "<lambda>"))) (q : Fin f W (hardP f.c) H0 H1 (M.fault f.c.F (ev t.Phi f.c.F e ρ) st) Q) :
    codeAny (model X.prog X.w) X.A (.call (.ref g) ⟨[.ref l], []⟩) (CR (fun _ _ _ _ _ _ => False) X.stack X.prog X.w H1 s' Q (fun _ _ _ => False)) s' := by
  have hl1 := rel1.sub _ _ hl
  have hco1 := rel1.sub _ _ hco
  obtain ⟨p1, p2, p3, p4, p5, p6, j, h₀, hds, rfl, hh⟩ := C.body
  refine LamX.run_ofS (N := [a, n]) (ps := [a]) (us := [.ref l]) (vs := [.ref l]) lk hcg C.scope hr I1.env0 (hb s' [.ref l] I1.kIn rfl) (.cons rfl .nil) rfl fun hr' => ?_
  have base : ∀ (Ech : XK), (∀ (D' : Ends) cls d σ' H', D'.rt = Q → Ech cls d H' → σ'.length = 2 → wAll X.K 1 (fun _ _ _ _ => False) D' (clausesOf f cs) cls d σ' H') → tE f t Ech e σ H1 (fun _ H' => Q .non H') →
      ∃ u, PSs (catchCx X [a, n] x sg g cdg s' H1) [.Try [.Expr (.Call (.Name a p1) [] [] p2) p3] (h₀ :: hds) [] [] p4, .Return (some (.Constant .none j p5)) p6] u ∧ u { nx := fun _ H' => Q .non H', rt := Q } (L2.start [a, n] [.ref l]) H1 := fun Ech hE ht => by
    refine ⟨_, pss_cons (ps_try_all (X := catchCx X [a, n] x sg g cdg s' H1) (i := 1) (tb := fun W D σ' H => ∃ Ech : XK, (∀ cls d σ' H', Ech cls d H' → σ'.length = 2 → W cls d σ' H') ∧ σ'[0]? = some (some (.ref l)) ∧ H l = some (.ext φ) ∧ H c' = some (LamX.CodeO c' (X.env.qual ++ "<lambda>")) ∧ tE f t Ech e σ H (fun _ H' => D.nx σ' H'))
      rfl rfl C.scope.nd rfl C.loc LamX.takes0 (fun W pn xe tk _ => ?_) (hh s' H1)) (pss_one (ps_ret pe_non)), Ech, fun cls d σ' H' h1 h2 => ?_, rfl, hl1, hco1, ht⟩
    · constructor
      intro pins' s2 σ' H' D I' h'
      obtain ⟨Ech, hW, h1, h0, h2, h3⟩ := h'
      exact (pss_one (ps_expr (act' (CXg := fun _ _ _ _ _ _ => False) (Eg := fun _ _ _ => False) (i := 0) (p1 := p1) (p2 := p2) I1 L hφ (hbind _ _ _ _ _) (takesLen tk) (fun cls d σ' H' hE hl => hW cls d σ' H' hE hl) hr' (fun A outer s H hA hr2 => hbody A outer s H Ech l c' hA hr2) rfl C.vis C.nd1 C.nd2) rfl)).run pins' s2 σ' H' D I' ⟨h1, h0, h2, h3⟩
    · exact hE _ cls d σ' H' rfl h1 h2
  have fin : ∃ u, PSs (catchCx X [a, n] x sg g cdg s' H1) [.Try [.Expr (.Call (.Name a p1) [] [] p2) p3] (h₀ :: hds) [] [] p4, .Return (some (.Constant .none j p5)) p6] u ∧ u { nx := fun _ H' => Q .non H', rt := Q } (L2.start [a, n] [.ref l]) H1 := by
    have q : Fin f W (hardP f.c) H0 H1 (M.fault f.c.F (ev t.Phi f.c.F e ρ) st) Q := q
    unfold M.fault at q
    cases em : ev t.Phi f.c.F e ρ st with
    | bad =>
      simp only [em] at q
      exact q.elim
    | ok v s1 =>
      simp only [em] at q
      refine base (fun _ _ _ => False) (fun _ _ _ _ _ _ h => h.elim) ⟨H0, ρ, st, rel1, ?_⟩
      rw [em]
      exact fun w G0 G g p _ => q .non G0 G g p .non
    | err er s1 =>
      simp only [em] at q
      cases hF : f.c.F (2000 + er.c) with
      | nil =>
        simp only [hF] at q
        exact q.elim
      | cons tag more =>
        cases more with
        | cons _ _ =>
          simp only [hF] at q
          exact q.elim
        | nil =>
          simp only [hF] at q
          refine base (fun cls dd H' => ∃ G0, Grow f.c H0 H1 G0 H' ∧ PenAt f.c G0 H' s1 ∧ ErrAt f.c G0 H' f.ec er cls dd) (fun D' cls d σ' H' hD h hl => ?_) ⟨H0, ρ, st, rel1, ?_⟩
          · obtain ⟨G0, g, p, ea⟩ := h
            have hin := T.all _ _ hF
            refine clauses_read (by omega) g.sub p ea hD (T.exm _ hin) (T.few _) ⟨tag, fun pp hpp e1 => ?_, hin, fun v K0 K g2 p2 r => q v K0 K (g.trans g2) p2 r⟩
            have := T.tag pp hpp
            rw [e1, hF] at this
            cases this
            rfl
          · rw [em]
            exact fun cls dd G0 G g p ea => ⟨G0, g, p, ea⟩
  obtain ⟨u, hu1, hu2⟩ := fin
  exact ⟨u, hu1.nox, hu2⟩
theorem s_catch (hg : Gl X x) (hd : (x == ("__debug__" : Str)) = false) (hm : X.mg x = some (.ref g)) (hk : PySem.W.keepIn X.K (.ref g) = true) (lk : X.K.lookup g = some ⟨oc, od, .func (PySem.W.fnOf x x pg bg sg dV kV doc pm an cdg ct), osl⟩) (hcg : PySem.W.codeIn X.K cdg x = true)
    (hb : L2.Binds X.K (PySem.W.fnOf x x pg bg sg dV kV doc pm an cdg ct) [a] []) (C : Catcher X f x g cdg sg bg a n cs) (T : Tags f X.K cs) (TB : LamX.TabB X.base X.mg cAd P) (hcode : X.env.code = .ref cAd) (hmT : (P, X.env.qual ++ "<lambda>") ∈ f.c.tabs) (hu : ∀ p ∈ f.c.tabs, p.1 = P → p.2 = X.env.qual ++ "<lambda>") (hr : Room (k + 2) X.A) (L : LamX.LamS X.env.scope scope) (hdef : defaultsOf params X.env = ([], []))
    (hbind : ∀ (q : Str) (cl : List (Str × Addr)) (pm cv ctv : Value), bindArgs (PySem.W.kla_fn "<lambda>" q params body scope cl pm cv ctv) ⟨[], []⟩ = pure []) (hbody : ∀ (A : Around) (outer : List PySem.Env) (s : Shared) (H : Hp) (E : XK) (l c' : Addr), A.guards = X.A.guards → Room k (A.deeper (LamX.lamEnv X scope s.heap.objs.size l c')) → PE (LamX.lamCx X A outer s H E scope l c') body (tE f t E e)) :
    PE X (.Call (.Name x p) [.Lambda params body scope lpos] [] pos) (tE f t W (.catch e)) := by
  constructor
  intro pins s σ H Q I h
  unfold tE at h
  rw [rpE_eq rfl] at h
  obtain ⟨H0, ρ, st, rel, q⟩ := h
  refine wpAny_Call_Name_kw (ld_glob I hg hm ?_ hd)
  refine PySem.W.callWith_K (h₀ := X.base) I.ok.mod.kin hk ?_ (by rfl) (by rfl)
  show wpAny _ _ (spliced ((false, eval (.Lambda params body scope lpos) X.env) :: backTo pos (starEach [] X.env))) _ _ s
  refine Calls.spliced_cons (lam_fast I TB hcode hmT hu rel.sub rel.pen.nt rel.pen.tabs hdef (L.has I.ok) fun l c' pm' ctv G0 G s' I1 e1 e2 nt1 eN e0 T1 hl hco => ?_)
  refine Calls.spliced_nil ⟨I1.kIn, ?_⟩
  obtain ⟨g1, pen1⟩ := lam_grow rel e1 e2 nt1 eN e0 T1
  refine wpAny_call (codeAny_mono (R := CR (fun _ _ _ _ _ _ => False) X.stack X.prog X.w G s' Q (fun _ _ _ => False)) (catch_core lk hcg hb C T hr L hbind hbody I1 (rel.grow g1 pen1) hl (fun h z => z) hco (Fin.grow q g1)) fun r s2 hq => ?_)
  cases r with
  | error e => exact (show False from hq).elim
  | ok fl =>
    cases fl with
    | ret u => exact I1.after hq
    | next => exact False.elim hq
    | brk => exact False.elim hq
    | cont => exact False.elim hq
/-- a lambda made, to be kept -/
theorem s_lam {kk : Nat} (TB : LamX.TabB X.base X.mg cAd P) (hcode : X.env.code = .ref cAd) (hmT : (P, X.env.qual ++ "<lambda>") ∈ f.c.tabs) (hu : ∀ p ∈ f.c.tabs, p.1 = P → p.2 = X.env.qual ++ "<lambda>") (o : LamOk X f t) (hB : t.lamB kk X.env.scope params body scope = true) (L : LamX.LamS X.env.scope scope) (hdef : defaultsOf params X.env = ([], [])) :
    PE X (.Lambda params body scope lpos) (tE f t W (.lam kk)) := by
  constructor
  intro pins s σ H Q I h
  unfold tE at h
  rw [rpE_eq rfl] at h
  obtain ⟨H0, ρ, st, rel, q⟩ := h
  refine lam_fast I TB hcode hmT hu rel.sub rel.pen.nt rel.pen.tabs hdef (L.has I.ok) fun l c' pm' ctv G0 G s' I1 e1 e2 nt1 eN e0 T1 hl hco => ?_
  obtain ⟨g1, pen1⟩ := lam_grow rel e1 e2 nt1 eN e0 T1
  refine ⟨.ref l, G, I1, rfl, q (.ref l) G0 G g1 pen1 (.lam (c' := c') o.hot hl ?_ ?_)⟩
  · rw [o.lo]
    exact ⟨params, body, scope, pm', ctv, hB, rfl⟩
  · rw [o.lc]
    exact hco
/-- a kept lambda, handed to the def that catches -/
theorem s_catchV {b bs : VC.E} {y : Expr} (hg : Gl X x) (hd : (x == ("__debug__" : Str)) = false) (hm : X.mg x = some (.ref g)) (hk : PySem.W.keepIn X.K (.ref g) = true) (lk : X.K.lookup g = some ⟨oc, od, .func (PySem.W.fnOf x x pg bg sg dV kV doc pm an cdg ct), osl⟩) (hcg : PySem.W.codeIn X.K cdg x = true)
    (hb : L2.Binds X.K (PySem.W.fnOf x x pg bg sg dV kV doc pm an cdg ct) [a] []) (C : Catcher X f x g cdg sg bg a n cs) (T : Tags f X.K cs) (hr : Room (k + 2) X.A) (o : LamOk X f t) (n1 : notStar y = true) (nb : isBor b = false) (hy : PE X y (tE f t W b)) (hbs : bs = t.lams)
    (hbody : ∀ (e : VC.E) (body : Expr) (scope : Scope) (kk : Nat), nthE bs kk = some e → chk X.N f.c.used t.cold e scope body = true → ∀ (A : Around) (outer : List PySem.Env) (s : Shared) (H : Hp) (E : XK) (l c' : Addr), LamX.LamS X.env.scope scope → A.guards = X.A.guards → Room k (A.deeper (LamX.lamEnv X scope s.heap.objs.size l c')) → PE (LamX.lamCx X A outer s H E scope l c') body (tE f t E e)) :
    PE X (.Call (.Name x p) [y] [] pos) (tE f t W (.catchV b bs)) := by
  constructor
  intro pins s σ H Q I h
  subst hbs
  unfold tE at h
  rw [rpE_eq rfl] at h
  obtain ⟨H0, ρ, st, rel, q⟩ := h
  refine wpAny_Call_Name_kw (ld_glob I hg hm ?_ hd)
  have run := hy.run pins s σ H (fun v H1 => ∃ d st1 G0, Rel f.c G0 H1 σ ρ st1 ∧ Rep f.c G0 v d ∧ Fin f W (hardP f.c) G0 H1 ((match d with | .lam k => M.fault f.c.F (evn t.Phi f.c.F t.lams k ρ) | _ => M.bad) st1) Q) I (by
    unfold tE
    refine ⟨H0, ρ, st, rel, ?_⟩
    simp only [ev] at q
    exact q.step rel fun v H1 d st1 G0 g rel1 ra q1 => ⟨d, st1, G0, rel1, rpE_hard nb ra, q1⟩)
  refine PySem.W.callWith_K (h₀ := X.base) I.ok.mod.kin hk ?_ (by rw [star_cons n1]) (by rfl)
  rw [star_cons n1]
  refine Calls.spliced_cons (thn run fun u s1 ⟨v, H1, I1, rv, d, st1, G0, rel1, ra, q1⟩ => ?_)
  cases ra with
  | @lam l c' kk ob hot hl hlo hlc =>
    obtain rfl : u = Value.ref l := rv
    refine Calls.spliced_nil ⟨I1.kIn, ?_⟩
    rw [o.lo] at hlo
    rw [o.lc] at hlc
    obtain ⟨params, body, scope, pm', ctv, hB, rfl⟩ := hlo
    obtain ⟨e, he, hL, hp, hck⟩ := o.std _ _ _ _ hB
    have L := LamX.lamS_by hL
    obtain rfl : params = ⟨[], [], none, [], [], none, []⟩ := by
      unfold noPar at hp
      split at hp
      · rfl
      · cases hp
    have hev : evn t.Phi f.c.F t.lams kk ρ = ev t.Phi f.c.F e ρ := evn_at he
    simp only [hev] at q1
    refine wpAny_call (codeAny_mono (R := CR (fun _ _ _ _ _ _ => False) X.stack X.prog X.w H1 s1 Q (fun _ _ _ => False)) (catch_core (params := ⟨[], [], none, [], [], none, []⟩) lk hcg hb C T hr L (fun _ _ _ _ _ => rfl) (fun A outer s H E l c' hA hr2 => hbody e body scope kk he hck A outer s H E l c' L hA hr2) I1 rel1 hl (fun h z => z) hlc q1) fun r s2 hq => ?_)
    · cases r with
      | error e => exact (show False from hq).elim
      | ok fl =>
        cases fl with
        | ret u => exact I1.after hq
        | next => exact False.elim hq
        | brk => exact False.elim hq
        | cont => exact False.elim hq
  | _ => exact q1.elim
end
end VC
set_option Elab.async false
set_option linter.all false
set_option maxRecDepth 100000
set_option maxHeartbeats 1000000
/-! VCxa: {}, {k: v}. -/
namespace VC
open PySem PySem.Spec PyProof.Rows L2
section
variable {X : Cx} {f : Cf} {t : Tab} {W : XK} {y z : Expr} {a : VC.E} {pos : Pos}
theorem s_dic0 : PE X (.Dict [] [] pos) (tE f t W .dic0) := PEimp pe_dnewK fun σ H Q h => by
  unfold tE at h
  rw [rpE_eq rfl] at h
  obtain ⟨H0, ρ, st, rel, q⟩ := h
  exact fun p np => q (.ref p) (upd H0 p (.dK [])) _ (.new rel.sub np) (rel.pen.new rel.sub np) (.dic upd_same .nil)
theorem kc_pe {k : Kc} (h : kcB k y = true) : PE X y (L2.tC (kV k.key)) := by
  unfold kcB at h
  split at h
  · simp only [beq_iff_eq] at h
    subst h
    exact pe_int
  · simp only [beq_iff_eq] at h
    subst h
    exact pe_str
  · cases h
/-- a dict that is filled: it was empty -/
theorem grow_fill {c : Cfg} {H0 H G0 G : Hp} {p : Addr} {kvs : List (Key × V)} {st : PenSt} (np : H p = none) (sm : Same H0 H) (g : Grow c H0 (upd H p (.dK [])) G0 G) (pen : PenAt c G0 G st) (hp : p ≠ c.pa) : G p = some (.dK []) ∧ G0 p = none ∧ Grow c H0 H (upd G0 p (.dK kvs)) (upd G p (.dK kvs)) ∧ PenAt c (upd G0 p (.dK kvs)) (upd G p (.dK kvs)) st := by
  have n0 : H0 p = none := sm.free np
  obtain ⟨hG, hG0⟩ := g.old p (.dK []) hp (fun ps z => by cases z) upd_same n0
  refine ⟨hG, hG0, ⟨fun b u e => ?_, fun b u e => ?_, fun b u n1 n2 e z => ?_, fun b u n e => ?_⟩, ?_⟩
  · rw [upd_ne (ne_of_none (g.fast _ _ e) hG0)]
    exact g.fast _ _ e
  · by_cases z : b = p
    · subst z
      rw [upd_same] at e ⊢
      exact e
    · rw [upd_ne z] at e ⊢
      exact g.sub _ _ e
  · have ne : b ≠ p := ne_of_none e np
    have := g.old b u n1 n2 (by rw [upd_ne ne]; exact e) z
    rw [upd_ne ne, upd_ne ne]
    exact this
  · have ne : b ≠ p := ne_of_none e np
    rw [upd_ne ne]
    exact g.dom b u n (by rw [upd_ne ne]; exact e)
  · obtain ⟨⟨p0, p1, p2⟩, pt, pn⟩ := pen
    refine ⟨⟨by rw [upd_ne (Ne.symm hp)]; exact p0, by rw [upd_ne (Ne.symm hp)]; exact p1, by rw [upd_ne (ne_of_none p2 hG0)]; exact p2⟩, pt.ext (fun b u e => by rw [upd_ne (ne_of_none e hG0)]; exact e) (fun b ps e => ?_), fun b ps e => ?_⟩
    · rw [upd_ne fun z => by
        rw [z, hG] at e
        cases e]
      exact e
    · by_cases z : b = p
      · subst z
        rw [upd_same] at e
        cases e
      · rw [upd_ne z] at e
        exact pn _ _ e
theorem s_dic1 {k : Kc} (hk : kcB k y = true) (nb : isBor a = false) (hz : PE X z (tE f t W a)) : PE X (.Dict [some y] [z] pos) (tE f t W (.dic1 k a)) := by
  refine PEimp (pe_disp (pps_cons (kc_pe hk) hz pps_nil) rfl rfl (by simp) (by simp)) fun σ H Q h => ?_
  unfold tE at h
  rw [rpE_eq rfl] at h
  obtain ⟨H0, ρ, st, rel, q⟩ := h
  intro p np
  have hp : p ≠ f.c.pa := rel.pen.npa np
  show tE f t W a σ (upd H p (.dK [])) _
  unfold tE
  have g1 : Grow f.c H0 H H0 (upd H p (.dK [])) := .loose rel.sub np
  refine ⟨H0, ρ, st, rel.grow g1 (rel.pen.loose np), ?_⟩
  simp only [ev] at q
  cases em : ev t.Phi f.c.F a ρ st with
  | bad =>
    unfold M.bind at q
    rw [em] at q
    exact q
  | err e s1 =>
    unfold M.bind at q
    rw [em] at q
    exact fun cls dd G0 G g pp ea => q cls dd G0 G (g1.trans g) pp ea
  | ok d s1 =>
    unfold M.bind at q
    rw [em] at q
    intro v G0 G g pen ra
    have rv : Rep f.c G0 v d := rpE_hard nb ra
    obtain ⟨hG, hG0, g2, pen2⟩ := grow_fill (kvs := [(k.key, v)]) np rel.sub g pen hp
    refine ⟨hG, [(k.key, v)], rfl, by simp, ?_⟩
    exact q (.ref p) _ _ g2 pen2 (.dic upd_same (.cons (rv.mono fun b u e => by rw [upd_ne (ne_of_none e hG0)]; exact e) .nil))
end
end VC
set_option Elab.async false
set_option linter.all false
set_option maxRecDepth 100000
set_option maxHeartbeats 2000000
/-! VCxb: a list comprehension whose items' code knows the state that the block began in (the road is lc_core's; what is new: he is told the def's own invariant). -/
namespace VC
open PySem PySem.Spec PyProof.Rows L2
section
variable {X : Cx}
theorem lc_told {pins : List (Addr × Obj)} {s : Shared} {σ : L2.St} {H : Hp} {Q : VK} {elt tg iter : Expr} {scope : Scope} {own : List (Str × Nat)} {pos : Pos} {wi : TI} {g : TG} {te : TE}
    (hc : X.calm = true) (hN : X.N.Nodup) (I : Inv X pins σ H s) (hi : PI X tg iter wi) (ok : BlkOk X.N X.env.scope scope own)
    (hg : ∀ (u : Shared) (G : Hp) (C : Addr) (cl : List (Str × Addr)) (fp : List Addr), PG (X.blk u G scope (compEnvC scope cl C X.env) fp) tg g)
    (he : ∀ (u : Shared) (G : Hp) (C : Addr) (cl : List (Str × Addr)) (fp : List Addr), Inv X pins σ G u → (∀ b ∈ fp, FpOk X pins G b) → PE (X.blk u G scope (compEnvC scope cl C X.env) fp) elt te) (hs : ∀ x, foldedSetIterable iter X.env x = pure x)
    (h : tLc wi g tYes te (own.map (·.2)) σ H Q) : wpAny (model X.prog X.w) X.A (eval (.ListComp elt [⟨tg, iter, [], 0⟩] scope pos) X.env) (EP X pins σ Q) X.xe s := by
  rw [eval_ListComp]
  have caps : ∀ y ∈ scope.names, y.2 = .free → ∃ c, X.env.cells.lookup y.1 = some c := fun y hy e => (ok.free y hy e).elim (fun k => I.ok.has _ (.inl k)) fun k => I.ok.has _ (.inr k)
  refine wpAny_comprehension_free (use := none) rfl hs (closure_ok caps) ok.kind (fun y hy e => by rw [ok.uniq y hy, e]) (thn (hi.run pins s σ H _ I h) fun xv sa hx => thn hx fun itv sb hb => ?_)
  obtain ⟨it, fp, tn, J, Hb, rfl, Ib, T, stb, fb, q⟩ := hb
  refine wpAny_newObj_type (newEnv_comp ?_) (by show 0 ≤ sizeLine; decide)
  have nD : Hb sb.heap.objs.size = none := Ib.hok.fresh (Nat.le_refl _)
  obtain ⟨Wm, ⟨m0, w0⟩, turn⟩ := q _ nD
  let sc : Shared := { sb with heap := sb.heap.push { cls := .type "list", data := .seq ([] : List Value).toArray } }
  let Hc : Hp := upd Hb sb.heap.objs.size (.lst [])
  have Ic : Inv X pins σ Hc sc := Ib.laid (t' := sb.toks) (fun b o e => Heap.get?_push_of_some _ e) (Nat.le_refl _) ⟨Nat.zero_le _, [], 0, .nil, Heap.get?_push_size _ rfl⟩
  have old : ∀ b ∈ fp, b < sb.heap.objs.size := fun b hb => by
    obtain ⟨o, e, _⟩ := T.obj _ _ stb b hb
    exact Heap.lt_size e
  have fc : ∀ b ∈ fp, FpOk X pins Hc b ∧ b < sc.heap.objs.size := fun b hb => by
    have lt := old b hb
    refine ⟨⟨?_, (fb b hb).2⟩, ?_⟩
    · show upd Hb sb.heap.objs.size (.lst []) b = none
      rw [upd_ne (Nat.ne_of_lt lt)]
      exact (fb b hb).1
    · show b < (sb.heap.push _).objs.size
      rw [Heap.size_push]
      exact Nat.lt_succ_of_lt lt
  have stc : tn 0 sc.heap := T.keep _ _ _ stb fun b _ o e => Heap.get?_push_of_some _ e
  have Id := block_start Ic ok hN fc
  have pg := hg sc Hc sc.heap.objs.size (cellsFrom (sc.heap.objs.size + 1) scope.names (cloFrom X.env.cells scope.names [])) fp
  have pe := he sc Hc sc.heap.objs.size (cellsFrom (sc.heap.objs.size + 1) scope.names (cloFrom X.env.cells scope.names [])) fp Ic fun b hb => (fc b hb).1
  have nfp : ∀ b ∈ fp, Hc b = none := fun b hb => (fc b hb).1.1
  show codeAny _ _ (.compStart (.ListComp elt [⟨tg, iter, [], 0⟩] scope pos) 0 (.ref it) (.ref sb.heap.objs.size) (compEnvC scope (cellsFrom (sc.heap.objs.size + 1) scope.names (cloFrom X.env.cells scope.names [])) sc.heap.objs.size X.env)) (compPost (model X.prog X.w) X.A X.xe none (EP X pins σ Q) (.ref sb.heap.objs.size) sc.heap.objs.size) { sc with heap := pushCells (sc.heap.push { cls := .type "dict", data := .dict #[] }) scope.names }
  have cloc : (compEnvC scope (cellsFrom (sc.heap.objs.size + 1) scope.names (cloFrom X.env.cells scope.names [])) sc.heap.objs.size X.env).locals = sc.heap.objs.size := rfl
  have w0 : Wm 0 m0 Hc := w0
  clear_value Hc
  generalize hce : compEnvC scope (cellsFrom (sc.heap.objs.size + 1) scope.names (cloFrom X.env.cells scope.names [])) sc.heap.objs.size X.env = ce at Id pg pe cloc ⊢
  generalize hsd : ({ sc with heap := pushCells (sc.heap.push { cls := .type "dict", data := .dict #[] }) scope.names } : Shared) = sd at Id ⊢
  have std : tn 0 sd.heap := T.keep _ _ _ stc fun b _ o e => by rw [← hsd]; exact pushCells_keeps _ _ _ _ (Heap.get?_push_of_some _ e)
  have stat : ∀ {τ : L2.St} {G : Hp} {u : Shared}, Inv (X.blk sc Hc scope ce fp) [] τ G u → (∀ b ∈ fp, G b = none) → ∀ b ∈ fp, FpOk (X.blk sc Hc scope ce fp) [] G b := fun {τ G u} J' hn b hb =>
    ⟨hn b hb, (J'.ok.exf b hb).1, J'.ok.exfs b hb, .inl hb, fun x c e => (J'.ok.exf b hb).2 x c e, fun p hp => (nomatch (show p ∈ ([] : List (Addr × Obj)) from hp))⟩
  have run : codeAny (model X.prog X.w) X.A (.compLoop (.ListComp elt [⟨tg, iter, [], 0⟩] scope pos) 0 (.ref it) (.ref sb.heap.objs.size) ce) (compPost (model X.prog X.w) X.A X.xe none (EP X pins σ Q) (.ref sb.heap.objs.size) sc.heap.objs.size) sd := by
    refine compLoop_any (fun n u => ∃ i G, Inv (X.blk sc Hc scope ce fp) [] (L2.wipe σ (own.map (·.2))) G u ∧ tn i u.heap ∧ (∀ b ∈ fp, G b = none) ∧ Wm i n G) ?_ m0 ⟨0, Hc, Id, std, nfp, w0⟩
    rintro n u ⟨i, G, Iu, stu, nu, wu⟩
    rcases turn i n G wu with ⟨stop, qe⟩ | ⟨go, Nx, fall, item⟩
    · refine thnF (T.done (X.blk sc Hc scope ce fp) rfl rfl rfl hc i [] u _ G (fun _ _ => False) Iu (stat Iu nu) stu stop) fun r v ⟨er, Iv⟩ => ?_
      subst er
      have Iw : Inv X pins σ G v := Ic.call' (ch := fp) Iv.os Iv.base Iv.hok Iv.bare fun b hb => ⟨(fc b hb).1.2.2.2.1, (fc b hb).1.2.1, (fc b hb).1.2.2.2.2.1, (fc b hb).1.2.2.2.2.2⟩
      have nC : G sc.heap.objs.size = none := by
        rw [← cloc]
        exact Iv.free
      obtain ⟨m, ns, _⟩ := Iv.loc
      have ns : v.heap.Ns ce.locals m := ns
      rw [cloc] at ns
      refine ⟨m, ns, fun h'' sb' => ?_⟩
      obtain ⟨z0, z1, z2, z3, z4, z5⟩ := Ic.fpOk (Nat.le_refl _) nC
      exact ⟨.ref sb.heap.objs.size, G, Iw.turned (t' := v.toks) (fun b o hb e => (sb'.2 b hb).trans e) z0 z1 z3 z4 z5, rfl, qe⟩
    · refine thnF (T.item (X.blk sc Hc scope ce fp) rfl rfl rfl hc i [] u _ G (fun _ _ => False) Iu (stat Iu nu) stu go) fun r v ⟨x, er, hv⟩ => ?_
      subst er
      refine thnF hv fun _ v1 ⟨y, G1, I1, ry, yl, st1, n1⟩ => ?_
      have I1p := I1.pinned (stat I1 n1) (T.obj _ _ st1)
      refine thnF (pg.run _ v1 _ G1 y x _ I1p ry (item y G1 yl)) fun _ v2 ⟨σ2, G2, I2, hw, q2⟩ => ?_
      refine wpAny_tests_nil ?_
      have q2 : te σ2 G2 fun z G3 => ∃ acc, G3 sb.heap.objs.size = some (.lst acc) ∧ acc.length < sizeLine ∧ Nx (upd G3 sb.heap.objs.size (.lst (acc ++ [z]))) := q2
      rw [if_pos rfl]
      refine thnF (pe.run _ v2 σ2 G2 _ I2 q2) fun z v3 ⟨zv, G3, I3, rz, acc, hD, hz, nx⟩ => ?_
      refine app_ok (X := X.blk sc Hc scope ce fp) I3 hD hz rz fun v4 I4 => ?_
      obtain ⟨m', hm, w'⟩ := fall _ nx
      have held : ∀ b ∈ fp, ∀ o, v1.heap.get? b = some o → v4.heap.get? b = some o ∧ upd G3 sb.heap.objs.size (.lst (acc ++ [zv])) b = none := fun b hb o e =>
        let w := I4.pin (b, o) (List.mem_append_right _ (List.mem_append_right _ (mem_pinsAt hb e)))
        ⟨w.1, w.2.1⟩
      refine ⟨m', hm, i + 1, _, (I4.unpinned (pins := [])).weak (by rw [← hw, L2.wipe_length]) (fun j v e => ?_), T.keep _ _ _ st1 fun b hb o e => (held b hb o e).1, fun b hb => ?_, w'⟩
      · rw [← hw] at e
        exact (L2.wipe_some e).1
      · obtain ⟨o, e, _⟩ := T.obj _ _ st1 b hb
        exact (held b hb o e).2
  exact codeAny_compStart_list run (T.self X.A 0 _ _ _ std run)
end
end VC
set_option Elab.async false
set_option linter.all false
set_option maxRecDepth 100000
set_option maxHeartbeats 2000000
/-! VCxc: a kept lambda called out of any frame: what must be known of its maker's cells. -/
namespace VC
open PySem PySem.Spec PyProof.Rows L2
section
variable {X : Cx} {σ : L2.St} {HZ : Hp} {s1 : Shared}
theorem start_any {A : Around} {outer : List PySem.Env} {E : XK} {scope : Scope} {f c' : Addr} {h₁ : Heap} {tk : Nat} (k : KC X σ HZ s1.heap) (L : LamX.LamS X.env.scope scope) (e0 : Env0 X.prog X.w X.K X.mg X.base A outer s1 HZ) (hd : A.handled = none)
    (hns : h₁.Ns s1.heap.objs.size fun y => ([] : List (Str × Value)).reverse.lookup y) (kp : ∀ b o, s1.heap.get? b = some o → h₁.get? b = some o) :
    Inv (LamX.lamCx X A outer s1 HZ E scope f c') [] σ HZ { s1 with heap := h₁, toks := tk } := by
  have caps := L.has k.ok
  have back : ∀ {y c}, (cloFrom X.env.cells scope.names []).lookup y = some c → X.env.cells.lookup y = some c := fun {y c} e => by
    rcases cloFrom_mem (PySem.mem_of_lookup e) with z | ⟨z1, z2⟩
    · cases z
    · obtain ⟨c1, hc⟩ := caps _ z1 rfl
      have hc : X.env.cells.lookup y = some c1 := hc
      rw [hc, z2, hc]
      rfl
  have there : ∀ {y}, scope.names.lookup y = some .free → ∃ c, (cloFrom X.env.cells scope.names []).lookup y = some c := fun {y} hl => mem_lookup (cloFrom_has (cells := X.env.cells) (acc := []) (show (y, NameKind.free) ∈ scope.names from PySem.mem_of_lookup hl))
  have up : ∀ {c : Addr} {v : Option Value}, s1.heap.IsCell c v → h₁.IsCell c v := fun {c v} ⟨o, ho, z⟩ => ⟨o, kp _ _ ho, z⟩
  have none_ex : ∀ b : Addr, b ∉ (LamX.lamCx X A outer s1 HZ E scope f c').ex := fun b z => nomatch (show b ∈ ([] : List Addr) from z)
  constructor
  · constructor
    · exact e0.mod
    · exact L.kind
    · rfl
    · rfl
    · exact Nat.le_refl _
    · exact fun y z c e1 e2 => k.ok.inj y z c (back e1) (back e2)
    · intro y hy
      have hy : scope.names.lookup y = some .cell ∨ scope.names.lookup y = some .free := hy
      rcases hy with hy | hy
      · exact absurd rfl (L.own _ (PySem.mem_of_lookup hy)).2
      · exact there hy
    · intro y c z _
      have z : false = true := z
      cases z
    · exact fun _ => hd
    · exact Around.frames_deeper e0.frames
    · exact .inr ⟨rfl, rfl⟩
    · exact fun b z => absurd z (none_ex b)
    · exact e0.bs
    · exact e0.bsz
    · exact fun b _ _ => none_ex b
    · exact fun b z => absurd z (none_ex b)
    · exact e0.funs
    · exact e0.frf
  · rfl
  · exact e0.bare
  · exact Un.kept kp
  · refine ⟨_, hns, fun i y v e1 e2 e3 => ?_⟩
    have e3 : Vis scope y := e3
    rcases e3 with z | z | z
    · exact absurd rfl (L.own _ (PySem.mem_of_lookup z)).1
    · exact absurd rfl (L.own _ (PySem.mem_of_lookup z)).2
    · obtain ⟨u, c, r, hc, w⟩ := k.val i y v e1 e2 (L.free _ (PySem.mem_of_lookup z) rfl)
      obtain ⟨c2, h2⟩ := there z
      refine ⟨u, r, .inr ⟨.inr z, c2, h2, ?_⟩⟩
      have h3 := back h2
      rw [hc] at h3
      cases h3
      exact up w
  · intro y c e
    obtain ⟨_, v, w⟩ := k.cel y c (back e)
    exact ⟨v, up w⟩
  · exact e0.hok.fresh (Nat.le_refl _)
  · exact fun y c e => (k.cel y c (back e)).1
  · exact fun q hq => nomatch (show q ∈ ([] : List (Addr × Obj)) from hq)
  · exact e0.hok.kept kp
  · exact k.len
end
section
variable {X : Cx} {σ : L2.St} {H : Hp} {s : Shared}
theorem act_any {CXg : CXT} {Eg : XK} {Ng : List Str} {qg : Str} {sg : Scope} {g l c' : Addr} {cdg pm ctv : Value} {params : Arguments} {body : Expr} {scope : Scope} {k i : Nat} {a : Str} {pn : List (Addr × Obj)} {xe : Value → Shared → Prop} {W : WX} {E : XK} {tb : TE} {p1 p2 : Pos} {φ : Heap → Prop} {A0 : Around} {O0 : List PySem.Env}
    (kc : KC X σ H s.heap) (L : LamX.LamS X.env.scope scope) (hφ : ∀ h, φ h → h.get? l = some (lamOb X params body scope pm c' ctv))
    (hbind : bindArgs (PySem.W.kla_fn "<lambda>" (X.env.qual ++ "<lambda>") params body scope (cloFrom X.env.cells scope.names []) pm (.ref c') ctv) ⟨[], []⟩ = pure []) (tk : Takes ((cxOf CXg X.prog X.w X.K X.mg X.base Ng qg sg g cdg A0 O0 s H Eg).tr pn xe) W) (hW : ∀ cls d σ' H', E cls d H' → W cls d σ' H')
    (hr : Room (k + 1) (A0.deeper (envOfC qg sg s.heap.objs.size g cdg))) (hbody : ∀ (A : Around) (outer : List PySem.Env) (s : Shared) (H : Hp), A.guards = A0.guards → Room k (A.deeper (LamX.lamEnv X scope s.heap.objs.size l c')) → PE (LamX.lamCx X A outer s H E scope l c') body tb) (hN : Ng[i]? = some a) (hv : Vis sg a) (hd : (a == ("__debug__" : Str)) = false) (hcd : (a == ("__classdict__" : Str)) = false) :
    PE ((cxOf CXg X.prog X.w X.K X.mg X.base Ng qg sg g cdg A0 O0 s H Eg).tr pn xe) (.Call (.Name a p1) [] [] p2) (fun σZ HZ Q => σZ[i]? = some (some (.ref l)) ∧ HZ l = some (.ext φ) ∧ HZ c' = some (LamX.CodeO c' (X.env.qual ++ "<lambda>")) ∧ tb σ HZ Q) := by
  constructor
  intro pinsZ sZ σZ HZ Q IZ h
  obtain ⟨hs, hl, hc, ht⟩ := h
  refine wpAny_Call_Name_kw (thn ((pe_var (pos := p1) (i := i) hN hv hd hcd).run pinsZ sZ σZ HZ (fun v H1 => v = .ref l ∧ H1 = HZ) IZ ⟨.ref l, hs, rfl, rfl⟩) fun u s1 hu => ?_)
  obtain ⟨v, H1, I1, r1, ev, eH⟩ := hu
  subst ev
  rw [eH] at I1
  have hu : u = Value.ref l := r1
  subst hu
  have ok1 : ObjOk _ _ HZ s1.heap l (.ext φ) := I1.hok l _ hl
  have at1 := hφ _ ok1.1
  have kc1 : KC X σ HZ s1.heap := kc.keep I1.base fun _ c _ z => nomatch (show c ∈ ([] : List Addr) from z)
  obtain ⟨⟨oc, vs, t, hoc, hdc, hvc⟩, _, _⟩ := I1.hok c' _ hc
  refine PySem.W.callWith_F0 ⟨_, _, _, _, at1⟩ (wpAny_call (codeAny_mono (R := CR (L2.CX X.prog X.w) (envOfC qg sg s.heap.objs.size g cdg :: O0) X.prog X.w HZ s1 Q E) ?_ fun r s' hq => ?_))
  · show codeAny _ _ (.call (.ref l) ⟨[], []⟩) _ _
    refine PySem.W.kla_callFunE hr.depth at1 rfl L.co L.gen rfl ⟨c', oc, vs, t, rfl, hoc, hdc, hvc⟩ ?_
    rw [hbind]
    refine wpAny_pure (wpAny_newFunctionEnv (fun y hy => (L.own y hy).2) (fun y hy => absurd hy (by simp)) (fun h₁ hns hsb => ⟨I1.nolimit.fresh _ hsb, ?_⟩) L.kind)
    have J := start_any (X := X) (A := A0.deeper (envOfC qg sg s.heap.objs.size g cdg)) (outer := envOfC qg sg s.heap.objs.size g cdg :: O0) (E := E) (f := l) (c' := c') (tk := s1.toks + ([] : List (Str × Value)).length) kc1 L I1.env0 hr.hd hns fun b o e => hsb.extBut b o (Nat.ne_of_lt (Heap.lt_size e)) (Heap.get?_push_of_some _ e)
    show codeAny _ _ (.expr body (LamX.lamEnv X scope s1.heap.objs.size l c')) _ _
    refine PySem.W.kla_codeExpr (wpAny_mono ((hbody (A0.deeper (envOfC qg sg s.heap.objs.size g cdg)) (envOfC qg sg s.heap.objs.size g cdg :: O0) s1 HZ rfl (hr.deeper _)).run [] _ _ HZ Q J ht) (fun v s' hq => ?_) fun e s' hq => hq)
    obtain ⟨w', H', J', rv, q⟩ := hq
    exact ⟨w', H', J'.os, J'.bare, J'.base, J'.hok, rv, q⟩
  · cases r with
    | error e => exact passes_call tk hW pinsZ σZ HZ s1 e s' I1 hq
    | ok fl =>
      cases fl with
      | ret u => exact I1.after hq
      | next => exact False.elim hq
      | brk => exact False.elim hq
      | cont => exact False.elim hq
end
section
variable {X : Cx} {f : Cf} {t : Tab} {W : XK} {e : VC.E} {body : Expr} {params : Arguments} {scope : Scope} {x a n : Str} {g cAd P : Addr} {cdg : Value} {sg : Scope} {bg : List Stmt} {cs : List (Nat × String)} {k : Nat} {pg : Arguments} {dV kV doc pm ct oc : Value} {an od : Option Addr} {osl : Array (Option Value)} {p lpos pos : Pos} {A0 : Around} {O0 : List PySem.Env}
/-- the catching def, called out of any frame with a lambda of X's -/
theorem catch_any {s' : Shared} {σ : L2.St} {H0 H1 : Hp} {ρ : Env} {st : PenSt} {Q : VK} {l c' : Addr} {pm' ctv : Value} {φ : Heap → Prop} {Y : Cx} (lk : X.K.lookup g = some ⟨oc, od, .func (PySem.W.fnOf x x pg bg sg dV kV doc pm an cdg ct), osl⟩) (hcg : PySem.W.codeIn X.K cdg x = true)
    (hb : L2.Binds X.K (PySem.W.fnOf x x pg bg sg dV kV doc pm an cdg ct) [a] []) (C : Catcher Y f x g cdg sg bg a n cs) (hY : Y.prog = X.prog ∧ Y.w = X.w ∧ Y.K = X.K ∧ Y.mg = X.mg ∧ Y.base = X.base ∧ Y.A = A0 ∧ Y.stack = O0) (T : Tags f X.K cs) (hr : Room (k + 2) A0) (L : LamX.LamS X.env.scope scope)
    (hbind : ∀ (q : Str) (cl : List (Str × Addr)) (pm cv ctv : Value), bindArgs (PySem.W.kla_fn "<lambda>" q params body scope cl pm cv ctv) ⟨[], []⟩ = pure []) (hbody : ∀ (A : Around) (outer : List PySem.Env) (s : Shared) (H : Hp) (E : XK) (l c' : Addr), A.guards = A0.guards → Room k (A.deeper (LamX.lamEnv X scope s.heap.objs.size l c')) → PE (LamX.lamCx X A outer s H E scope l c') body (tE f t E e))
    (e0 : Env0 X.prog X.w X.K X.mg X.base A0 O0 s' H1) (kc : KC X σ H1 s'.heap) (kin : X.K.In s'.heap) (rel1 : Rel f.c H0 H1 σ ρ st) (hl : H0 l = some (.ext φ)) (hφ : ∀ h, φ h → h.get? l = some (lamOb X params body scope pm' c' ctv)) (hco : H0 c' = some (LamX.CodeO c' (X.env.qual ++ "<lambda>"))) (q : Fin f W (hardP f.c) H0 H1 (M.fault f.c.F (ev t.Phi f.c.F e ρ) st) Q) :
    codeAny (model X.prog X.w) A0 (.call (.ref g) ⟨[.ref l], []⟩) (CR (fun _ _ _ _ _ _ => False) O0 X.prog X.w H1 s' Q (fun _ _ _ => False)) s' := by
  have hl1 := rel1.sub _ _ hl
  have hco1 := rel1.sub _ _ hco
  obtain ⟨p1, p2, p3, p4, p5, p6, j, h₀, hds, rfl, hh⟩ := C.body
  obtain ⟨y1, y2, y3, y4, y5, y6, y7⟩ := hY
  have hh : ∀ s H, HdsA (cxOf (fun _ _ _ _ _ _ => False) X.prog X.w X.K X.mg X.base [a, n] x sg g cdg A0 O0 s H (fun _ _ _ => False)).nox n (h₀ :: hds) (clausesOf f cs) := fun s H => by
    have := hh s H
    unfold catchCx at this
    rw [y1, y2, y3, y4, y5, y6, y7] at this
    exact this
  refine LamX.run_ofS (N := [a, n]) (ps := [a]) (us := [.ref l]) (vs := [.ref l]) lk hcg C.scope hr e0 (hb s' [.ref l] kin rfl) (.cons rfl .nil) rfl fun hr' => ?_
  have base : ∀ (Ech : XK), (∀ (D' : Ends) cls d σ' H', D'.rt = Q → Ech cls d H' → σ'.length = 2 → wAll X.K 1 (fun _ _ _ _ => False) D' (clausesOf f cs) cls d σ' H') → tE f t Ech e σ H1 (fun _ H' => Q .non H') →
      ∃ u, PSs (cxOf (fun _ _ _ _ _ _ => False) X.prog X.w X.K X.mg X.base [a, n] x sg g cdg A0 O0 s' H1 (fun _ _ _ => False)).nox [.Try [.Expr (.Call (.Name a p1) [] [] p2) p3] (h₀ :: hds) [] [] p4, .Return (some (.Constant .none j p5)) p6] u ∧ u { nx := fun _ H' => Q .non H', rt := Q } (L2.start [a, n] [.ref l]) H1 := fun Ech hE ht => by
    refine ⟨_, pss_cons (ps_try_all (X := (cxOf (fun _ _ _ _ _ _ => False) X.prog X.w X.K X.mg X.base [a, n] x sg g cdg A0 O0 s' H1 (fun _ _ _ => False)).nox) (i := 1) (tb := fun W D σ' H => ∃ Ech : XK, (∀ cls d σ' H', Ech cls d H' → σ'.length = 2 → W cls d σ' H') ∧ σ'[0]? = some (some (.ref l)) ∧ H l = some (.ext φ) ∧ H c' = some (LamX.CodeO c' (X.env.qual ++ "<lambda>")) ∧ tE f t Ech e σ H (fun _ H' => D.nx σ' H'))
      rfl rfl C.scope.nd rfl C.loc LamX.takes0 (fun W pn xe tk _ => ?_) (hh s' H1)) (pss_one (ps_ret pe_non)), Ech, fun cls d σ' H' h1 h2 => ?_, rfl, hl1, hco1, ht⟩
    · constructor
      intro pins' s2 σ' H' D I' h'
      obtain ⟨Ech, hW, h1, h0, h2, h3⟩ := h'
      exact (pss_one (ps_expr (act_any (CXg := fun _ _ _ _ _ _ => False) (Eg := fun _ _ _ => False) (i := 0) (p1 := p1) (p2 := p2) kc L hφ (hbind _ _ _ _ _) (takesLen tk) (fun cls d σ' H' hE hl => hW cls d σ' H' hE hl) hr' (fun A outer s H hA hr2 => hbody A outer s H Ech l c' hA hr2) rfl C.vis C.nd1 C.nd2) rfl)).run pins' s2 σ' H' D I' ⟨h1, h0, h2, h3⟩
    · exact hE _ cls d σ' H' rfl h1 h2
  have fin : ∃ u, PSs (cxOf (fun _ _ _ _ _ _ => False) X.prog X.w X.K X.mg X.base [a, n] x sg g cdg A0 O0 s' H1 (fun _ _ _ => False)).nox [.Try [.Expr (.Call (.Name a p1) [] [] p2) p3] (h₀ :: hds) [] [] p4, .Return (some (.Constant .none j p5)) p6] u ∧ u { nx := fun _ H' => Q .non H', rt := Q } (L2.start [a, n] [.ref l]) H1 := by
    unfold M.fault at q
    cases em : ev t.Phi f.c.F e ρ st with
    | bad =>
      simp only [em] at q
      exact q.elim
    | ok v s1 =>
      simp only [em] at q
      refine base (fun _ _ _ => False) (fun _ _ _ _ _ _ h => h.elim) ⟨H0, ρ, st, rel1, ?_⟩
      rw [em]
      exact fun w G0 G g p _ => q .non G0 G g p .non
    | err er s1 =>
      simp only [em] at q
      cases hF : f.c.F (2000 + er.c) with
      | nil =>
        simp only [hF] at q
        exact q.elim
      | cons tag more =>
        cases more with
        | cons _ _ =>
          simp only [hF] at q
          exact q.elim
        | nil =>
          simp only [hF] at q
          refine base (fun cls dd H' => ∃ G0, Grow f.c H0 H1 G0 H' ∧ PenAt f.c G0 H' s1 ∧ ErrAt f.c G0 H' f.ec er cls dd) (fun D' cls d σ' H' hD h hl => ?_) ⟨H0, ρ, st, rel1, ?_⟩
          · obtain ⟨G0, g, p, ea⟩ := h
            have hin := T.all _ _ hF
            refine clauses_read (by omega) g.sub p ea hD (T.exm _ hin) (T.few _) ⟨tag, fun pp hpp e1 => ?_, hin, fun v K0 K g2 p2 r => q v K0 K (g.trans g2) p2 r⟩
            have := T.tag pp hpp
            rw [e1, hF] at this
            cases this
            rfl
          · rw [em]
            exact fun cls dd G0 G g p ea => ⟨G0, g, p, ea⟩
  obtain ⟨u, hu1, hu2⟩ := fin
  exact ⟨u, hu1.nox, hu2⟩
end
end VC
set_option Elab.async false
set_option linter.all false
set_option maxRecDepth 100000
set_option maxHeartbeats 2000000
/-! VCxd: a comprehension whose item is a call of a def that is handed a lambda of the maker's. -/
namespace VC
open PySem PySem.Spec PyProof.Rows L2
/-- the item -/
def elG (Φ : Fns) (F : Flds) (g : Nat) (as bs : VC.E) (ρ ρ' : Env) : M D := .bind (evs Φ F as ρ') fun ds => match ds with
  | .lam j :: es => .bind (.fault F (evn Φ F bs j ρ)) fun v => Φ g (v :: es)
  | _ => .bad
def bodyG (el : Env → M D) (tg : Tg) (ρ : Env) (d : D) : M (Option D) := match bindTg tg d (wipeD ρ tg.slots) with
  | none => .bad
  | some ρ' => .bind (el ρ') fun x => .ret (some x)
section
variable {X : Cx} {f : Cf} {t : Tab} {W : XK}
/-- what an item asks, the maker's state beside his own -/
def tEl (f : Cf) (el : Env → M D) (σX : L2.St) (ρX : Env) : TE := fun σ' H' Q => ∃ (K0 : Hp) (ρ' : Env) (s s' : PenSt) (x : D), Rel f.c K0 H' σ' ρ' s ∧ EnvOk f.c K0 H' σX ρX ∧ el ρ' s = .ok x s' ∧ ∀ w K1 K, Grow f.c K0 H' K1 K → PenAt f.c K1 K s' → Rep f.c K1 w x → Q w K
theorem lc_runH {tg : Tg} {k : VC.It} {r : VC.E} {el : Env → M D} {σ : L2.St} {H0 H : Hp} {ρ : Env} {st : PenSt} {Q : VK} (rel : Rel f.c H0 H σ ρ st)
    (q : Fin f W (hardP f.c) H0 H (M.bind (M.bind (evs t.Phi f.c.F r ρ) fun l => M.of (dItems k l)) (fun items => .calm (.bind (mapF (bodyG el tg ρ) items) fun l => .ret (D.lst l))) st) Q) :
    tLc (iT f t W false k r) (gT f.c.K tg) tYes (tEl f el σ ρ) tg.slots σ H Q := by
  refine ⟨H0, ρ, st, rel, q.step rel fun J H1 items st1 G0 g rel1 sv q1 D hD => ?_⟩
  obtain ⟨total, stF, ht, q2⟩ : ∃ total stF, mapF (bodyG el tg ρ) items st1 = .ok total stF ∧ ∀ w H0' H', Grow f.c G0 H1 H0' H' → PenAt f.c H0' H' stF → Rep f.c H0' w (.lst total) → Q w H' := by
    unfold M.calm M.bind at q1
    cases em : mapF (bodyG el tg ρ) items st1 with
    | ok l s2 =>
      simp only [em, M.ret] at q1
      exact ⟨l, s2, rfl, q1⟩
    | err x s2 =>
      simp only [em] at q1
      exact q1.elim
    | bad =>
      simp only [em] at q1
      exact q1.elim
  have sm1 := rel1.sub
  have hpa : D ≠ f.c.pa := rel1.pen.npa hD
  have g0 : Grow f.c G0 H1 G0 (upd H1 D (.lst [])) := .loose sm1 hD
  refine ⟨fun i m H => m = items.length - i ∧ i ≤ items.length ∧ ∃ (H0' : Hp) (acc : List V) (ds rest : List VC.D) (s : PenSt), Grow f.c G0 H1 H0' H ∧ PenAt f.c H0' H s ∧ H D = some (.lst acc) ∧ H0' D = none ∧ Reps f.c H0' acc ds ∧ acc.length ≤ i ∧ mapF (bodyG el tg ρ) (items.drop i) s = .ok rest stF ∧ ds ++ rest = total, ⟨items.length, by simp, Nat.zero_le _, G0, [], [], total, st1, g0, rel1.pen.loose hD, upd_same, sm1.free hD, .nil, Nat.zero_le _, ht, rfl⟩, ?_⟩
  rintro i m H2 ⟨rfl, hi, H0', acc, ds, rest, s, gg, pen, hd2, hd0, ra, hl, hm, htot⟩
  have wk : walkR f.c false G0 H1 H0' H2 := gg
  by_cases hlt : i < items.length
  · refine .inr ⟨sv.go i _ _ wk hlt, fun H' => ∃ (H0' : Hp) (acc : List V) (ds rest : List VC.D) (s : PenSt), Grow f.c G0 H1 H0' H' ∧ PenAt f.c H0' H' s ∧ H' D = some (.lst acc) ∧ H0' D = none ∧ Reps f.c H0' acc ds ∧ acc.length ≤ i + 1 ∧ mapF (bodyG el tg ρ) (items.drop (i + 1)) s = .ok rest stF ∧ ds ++ rest = total, fun H' hN => ⟨items.length - (i + 1), by omega, rfl, hlt, hN⟩, fun x H3 y => ?_⟩
    obtain ⟨d, K0, e1, s3, rx⟩ := sv.yld i _ _ _ _ wk gg.sub hlt y
    have edrop : items.drop i = d :: items.drop (i + 1) := by
      rw [List.drop_eq_getElem_cons hlt]
      rw [List.getElem?_eq_getElem hlt] at e1
      cases e1
      rfl
    rw [edrop] at hm
    obtain ⟨o, s4, rest', m1, m2, m3⟩ := mapF_ok hm
    unfold bodyG at m1
    cases eb : bindTg tg d (wipeD ρ tg.slots) with
    | none =>
      simp only [eb] at m1
      cases m1
    | some ρ' =>
      simp only [eb] at m1
      have gk := gg.trans s3.g
      have hd3 : H3 D = some (.lst acc) ∧ K0 D = none := s3.g.old D _ hpa lst_nt hd2 hd0
      have en0 : EnvOk f.c K0 H3 σ ρ := rel1.env.grow gk
      have en : EnvOk f.c K0 H3 (L2.wipe σ tg.slots) (wipeD ρ tg.slots) := en0.wipe tg.slots
      refine gT_run s3.g.sub en rx eb fun σ' en' hw => ⟨by rw [hw tg.slots fun _ m => m, wipe_wipe σ _ _ fun _ m => m], ?_⟩
      obtain ⟨xd, s6, u1, u2⟩ := bind_ok m1
      simp only [M.ret, Res.ok.injEq] at u2
      obtain ⟨rfl, rfl⟩ := u2
      simp only [tYes, if_true]
      refine ⟨K0, ρ', s, s6, xd, ⟨s3.g.sub, s3.p _ pen, en'⟩, en0, u1, fun yv K2 H5 g5 p5 ry => ?_⟩
      have hd5 : H5 D = some (.lst acc) ∧ K2 D = none := g5.old D _ hpa lst_nt hd3.1 hd3.2
      refine ⟨acc, hd5.1, by have := sv.len; omega, K2, acc ++ [yv], ds ++ [xd], rest', s6, ?_, ?_, upd_same, hd5.2, (ra.mono (s3.g.fast.trans g5.fast)).append (.cons ry .nil), by rw [List.length_append]; simp; omega, m2, by rw [← htot, m3]; simp⟩
      · have g6 := gk.trans g5
        refine ⟨g6.fast, fun a u h => ?_, fun a u n nt h1 h2 => ?_, fun a u nt h => ?_⟩
        · rw [upd_ne (ne_of_none h hd5.2)]
          exact g6.sub _ _ h
        · rw [upd_ne (ne_of_none h1 hD)]
          exact g6.old a u n nt h1 h2
        · rw [upd_ne (ne_of_none h hD)]
          exact g6.dom a u nt h
      · exact p5.change hd5.1 hd5.2
  · have e : i = items.length := by omega
    subst e
    refine .inl ⟨sv.stop _ _ _ wk rfl, ?_⟩
    rw [List.drop_length] at hm
    simp only [mapF, M.ret, Res.ok.injEq] at hm
    obtain ⟨rfl, rfl⟩ := hm
    rw [List.append_nil] at htot
    subst htot
    refine q2 (.ref D) (upd H0' D (.lst acc)) H2 ⟨fun a u h => ?_, fun a u h => ?_, fun a u n nt h1 h2 => ?_, gg.dom⟩ (pen.fix hd2 hd0) ?_
    · rw [upd_ne (ne_of_none (gg.fast _ _ h) hd0)]
      exact gg.fast _ _ h
    · by_cases ea : a = D
      · subst ea
        rw [upd_same] at h
        cases h
        exact hd2
      · rw [upd_ne ea] at h
        exact gg.sub _ _ h
    · rw [upd_ne (ne_of_none h1 hD)]
      exact gg.old a u n nt h1 h2
    · exact .newL hd0 (Nat.le_trans hl sv.len) ra
variable {x iter tg' : Expr} {es : List Expr} {id : Str} {p pos pos' : Pos} {scope : Scope} {tg : Tg} {r as bs : VC.E} {k : VC.It} {g : Nat} {own : List (Str × Nat)}
/-- the item's call -/
theorem s_elt {pins : List (Addr × Obj)} {σ : L2.St} {Gh : Hp} {u : Shared} {C : Addr} {cl : List (Str × Addr)} {fp : List Addr} {ρ : Env} (G : GAt X f t g) (I : Inv X pins σ Gh u) (hfp : ∀ b ∈ fp, FpOk X pins Gh b) (hg : Gl (X.blk u Gh scope (compEnvC scope cl C X.env) fp) id) (he : id = Str.ofString (t.nm g)) (hd : (id == ("__debug__" : Str)) = false)
    (hr : hards as = true) (hs : (x :: es).all notStar = true) (ha : PA (X.blk u Gh scope (compEnvC scope cl C X.env) fp) (x :: es) (tL f t.noL L2.E0 as)) :
    PE (X.blk u Gh scope (compEnvC scope cl C X.env) fp) (.Call (.Name id p) (x :: es) [] pos) (tEl f (elG t.Phi f.c.F g as t.lams ρ) σ ρ) := by
  subst he
  obtain ⟨ga, hm, hk, F⟩ := G
  refine ⟨fun pins' s σ' H Q IZ h => ?_⟩
  obtain ⟨H0, ρ', st, st', xd, rel, en, hel, q⟩ := h
  unfold elG at hel
  obtain ⟨ds, st1, e1, hel⟩ := bind_ok hel
  simp only [List.all_cons, Bool.and_eq_true] at hs
  refine wpAny_Call_Name_kw (ld_glob IZ hg hm ?_ hd)
  refine PySem.W.callWith_K (h₀ := X.base) IZ.ok.mod.kin hk (thn (ha.run pos pins' s σ' H (fun vs H1 => ∃ G1, Rel f.c G1 H1 σ' ρ' st1 ∧ Reps f.c G1 vs ds ∧ EnvOk f.c G1 H1 σ ρ ∧ Grow f.c H0 H G1 H1) IZ ⟨H0, ρ', st, rel, fin_res e1 fun vs G1 H1 gr pn ra => ⟨G1, rel.grow gr pn, rpL_hard hr ra, en.grow gr, gr⟩⟩) fun us s1 ⟨vs, H1, I1, rv, G1, rel1, ra, en1, gr⟩ => ⟨I1.kIn, ?_⟩) (star_cons hs.1) (star_any hs.2)
  have kc : KC X σ H1 s1.heap := (KC.of I).keep I1.base fun y c e hc => ((hfp c hc).2.2.2.2.1 y c e) rfl
  cases ra with
  | nil => cases hel
  | @cons v d vr dr r1 r2 =>
    cases d with
    | lam j =>
      refine wpAny_call (codeAny_mono (R := CR (fun _ _ _ _ _ _ => False) X.stack X.prog X.w H1 s1 Q (fun _ _ _ => False)) (F s1 G1 H1 σ ρ st1 st' Q v us vr j dr xd I1.env0 I1.kIn kc ⟨rel1.sub, rel1.pen, en1⟩ r1 r2 rv hel fun w K1 K g1 p1 rw => q w K1 K (gr.trans g1) p1 rw) fun r s' hq => ?_)
      cases r with
      | error e => exact (show False from hq).elim
      | ok fl =>
        cases fl with
        | ret u => exact I1.after hq
        | next => exact False.elim hq
        | brk => exact False.elim hq
        | cont => exact False.elim hq
    | _ => cases hel
theorem s_compG (G : GAt X f t g) (hK : X.K = f.c.K) (hc : X.calm = true) (hN : X.N.Nodup) (hi : PI X tg' iter (iT f t W false k r)) (hfold : ∀ v, foldedSetIterable iter X.env v = pure v) (ok : BlkOk X.N X.env.scope scope own) (hown : own.map (·.2) = tg.slots)
    (ht : ∀ (s : Shared) (H : Hp) (C : Addr) (cl : List (Str × Addr)) (fp : List Addr), PG (X.blk s H scope (compEnvC scope cl C X.env) fp) tg' (gT X.K tg))
    (hg : ∀ (s : Shared) (H : Hp) (C : Addr) (cl : List (Str × Addr)) (fp : List Addr), Gl (X.blk s H scope (compEnvC scope cl C X.env) fp) id) (he : id = Str.ofString (t.nm g)) (hd : (id == ("__debug__" : Str)) = false) (hr : hards as = true) (hs : (x :: es).all notStar = true)
    (ha : ∀ (s : Shared) (H : Hp) (C : Addr) (cl : List (Str × Addr)) (fp : List Addr), PA (X.blk s H scope (compEnvC scope cl C X.env) fp) (x :: es) (tL f t.noL L2.E0 as)) (hbs : bs = t.lams) :
    PE X (.ListComp (.Call (.Name id p) (x :: es) [] pos) [⟨tg', iter, [], 0⟩] scope pos') (tE f t W (.compG g tg k r as bs)) := by
  subst hbs
  constructor
  intro pins s σ H Q I h
  unfold tE at h
  rw [rpE_eq rfl] at h
  obtain ⟨H0, ρ, st, rel, q⟩ := h
  refine lc_told (te := tEl f (elG t.Phi f.c.F g as t.lams ρ) σ ρ) hc hN I hi ok ht (fun u Gh C cl fp I' hfp => s_elt G I' hfp (hg u Gh C cl fp) he hd hr hs (ha u Gh C cl fp)) hfold ?_
  rw [hown, hK]
  refine lc_runH rel ?_
  rw [M.bind_bind]
  exact q
end
end VC
set_option Elab.async false
set_option linter.all false
set_option maxRecDepth 100000
set_option maxHeartbeats 1000000
/-! VCxe: an exception as a value is made, by place or by keywords. -/
namespace VC
open PySem PySem.Spec PyProof.Rows L2
section
variable {X : Cx} {f : Cf} {t : Tab} {W : XK} {r : VC.E} {pos p : Pos}
theorem PKimp {kws : List Keyword} {u u' : TA} (h : PK X kws u) (k : ∀ σ H Q, u' σ H Q → u σ H Q) : PK X kws u' := ⟨fun pos pins s σ H Q I q => h.run pos pins s σ H Q I (k _ _ _ q)⟩
theorem pk_of : ∀ {kws : List Keyword} {r : VC.E} (hn : ∀ k a, nthE r k = some a → ∀ {x : Expr}, chk X.N f.c.used t a X.env.scope x = true → PE X x (tE f t W a)), chks X.N f.c.used t r X.env.scope (kws.map kwV) = true → PK X kws (tL f t W r)
  | [], r, hn, h => by
    cases r <;> simp [chks] at h
    exact PKimp pk_nil fun σ H Q ⟨H0, ρ, st, rel, q⟩ => Fin.now (a := []) q rel.sub rel.pen ⟨rfl, rfl⟩
  | ⟨nm, y, kp⟩ :: kws, r, hn, h => by
    cases r <;> simp only [chks, List.map_cons, Bool.false_eq_true, List.isEmpty_cons] at h
    rename_i a r
    simp only [Bool.and_eq_true] at h
    have ha : PE X y (tE f t W a) := hn 0 a rfl h.1.2
    have hr : PK X kws (tL f t W r) := pk_of (fun k b e {x} hx => hn (k + 1) b e hx) h.2
    refine PKimp (pk_cons ha hr) fun σ H Q ⟨H0, ρ, st, rel, q⟩ => ?_
    simp only [evs] at q
    refine ⟨H0, ρ, st, rel, q.step rel fun v H1 d st1 G0 g rel1 ra q1 => ?_⟩
    refine ⟨G0, ρ, st1, rel1, q1.step rel1 fun vs H2 ds st2 G1 g2 rel2 rb q2 => ?_⟩
    exact Fin.now (a := d :: ds) q2 rel2.sub rel2.pen ⟨v, vs, d, ds, rfl, rfl, rpE_mono g2 ra, rb⟩
theorem kw_all {kws : List Keyword} {env : PySem.Env} : ∀ {kn : List String}, kwB kn kws = true → (backToKw pos (keywordEach kws env)).all (·.1.isSome) = true ∧ (backToKw pos (keywordEach kws env)).filterMap (·.1) = kn.map Str.ofString ∧ kws.length = kn.length := by
  induction kws with
  | nil =>
    intro kn h
    cases kn with
    | nil => exact ⟨rfl, rfl, rfl⟩
    | cons _ _ => cases h
  | cons k ks ih =>
    intro kn h
    obtain ⟨nm, v, kp⟩ := k
    cases kn with
    | nil => cases nm <;> cases h
    | cons n ns =>
      cases nm with
      | none => cases h
      | some m =>
        simp only [kwB, Bool.and_eq_true, beq_iff_eq] at h
        obtain ⟨i1, i2, i3⟩ := ih h.2
        refine ⟨?_, ?_, by simp [i3]⟩
        · have e : backToKw pos (keywordEach (⟨some m, v, kp⟩ :: ks) env) = (some m, _) :: backToKw pos (keywordEach ks env) := rfl
          rw [e, List.all_cons, i1]
          rfl
        · have e : backToKw pos (keywordEach (⟨some m, v, kp⟩ :: ks) env) = (some m, _) :: backToKw pos (keywordEach ks env) := rfl
          rw [e, List.filterMap_cons]
          simp only [i2, h.1, List.map_cons]
theorem all_any {l : List (Option Str × Sem Value)} (h : l.all (·.1.isSome) = true) : l.any (·.1.isNone) = false := by
  rw [List.all_eq_true] at h
  rw [List.any_eq_false]
  intro x hx
  have := h x hx
  cases e : x.1 <;> simp_all
theorem pickV_reps {c : Cfg} {H : Hp} : ∀ {ks : List Nat} {vs : List V} {ds l : List D}, Reps c H vs ds → pickD ds ks = some l → Reps c H (pickV vs ks) l
  | [], vs, ds, l, _, e => by
    simp only [pickD, Option.some.injEq] at e
    subst e
    exact .nil
  | k :: ks, vs, ds, l, rr, e => by
    simp only [pickD] at e
    obtain ⟨d, e1, e2⟩ := Option.bind_eq_some_iff.mp e
    obtain ⟨l', e3, rfl⟩ := Option.map_eq_some_iff.mp e2
    obtain ⟨v, hv, rv⟩ := rr.get e1
    unfold pickV
    rw [hv]
    exact .cons rv (pickV_reps rr e3)
theorem pickD_len {ds : List D} : ∀ {ks : List Nat} {l : List D}, pickD ds ks = some l → l.length = ks.length
  | [], l, e => by
    simp only [pickD, Option.some.injEq] at e
    subst e
    rfl
  | k :: ks, l, e => by
    simp only [pickD] at e
    obtain ⟨d, e1, e2⟩ := Option.bind_eq_some_iff.mp e
    obtain ⟨l', e3, rfl⟩ := Option.map_eq_some_iff.mp e2
    rw [List.length_cons, List.length_cons, pickD_len e3]
/-- the exception that has been made stands for its value -/
theorem made_ok {c : Cfg} {C : Addr} {n : Nat} {names : List String} {st : PenSt} {H0 H : Hp} {ws : List V} {l : List D} {Q : VK} (hx : c.xs = true) (hC : c.cl n = C) (hu : c.used n = true) (hF : c.F n = names) (nd : (names.map Str.ofString).Nodup) (sm : Same H0 H) (pen : PenAt c H0 H st) (rr : Reps c H0 ws l) (hl : ws.length = names.length)
    (q : ∀ v H0' H', Grow c H0 H H0' H' → PenAt c H0' H' st → Rep c H0' v (.obj n l) → Q v H') {a : Addr} (ha : H a = none) {E : XK} : spI C names (V.ref a :: ws) (upd H a (exo a C none)) (fun v H2 => v = .non ∧ Q (.ref a) H2) E := by
  subst hC hF
  refine ⟨a, ws, rfl, hl, upd_same, fun hn => ?_, fun hn => ?_⟩
  · rw [hn] at hl
    obtain rfl : ws = [] := List.length_eq_zero_iff.mp hl
    cases rr
    refine ⟨rfl, ?_⟩
    exact q _ (upd H0 a (exo a (c.cl n) none)) _ (.new sm ha) (pen.new sm ha fun ps => exo_tbl) (.exc0 hx upd_same hu hn)
  · intro dx hd hne
    have hda : H dx = none := by rw [upd_ne hne] at hd; exact hd
    refine ⟨rfl, ?_⟩
    have e : upd (upd (upd H a (exo a (c.cl n) none)) dx (exd dx (fldsOf (c.F n) ws []))) a (exo a (c.cl n) (some dx)) = upd (upd H dx (exd dx (fldsOf (c.F n) ws []))) a (exo a (c.cl n) (some dx)) := by
      funext b
      by_cases e1 : b = a
      · subst e1
        rw [upd_same, upd_same]
      · rw [upd_ne e1, upd_ne e1]
        by_cases e2 : b = dx
        · subst e2
          rw [upd_same, upd_same]
        · rw [upd_ne e2, upd_ne e2, upd_ne e1]
    rw [e]
    have s1 : Same (upd H0 dx (exd dx (fldsOf (c.F n) ws []))) (upd H dx (exd dx (fldsOf (c.F n) ws []))) := fun b o h => by
      by_cases e1 : b = dx
      · subst e1
        rw [upd_same] at h ⊢
        exact h
      · rw [upd_ne e1] at h ⊢
        exact sm _ _ h
    have na : upd H dx (exd dx (fldsOf (c.F n) ws [])) a = none := by rw [upd_ne (Ne.symm hne)]; exact ha
    have n0 : H0 dx = none := sm.free hda
    have n1 : upd H0 dx (exd dx (fldsOf (c.F n) ws [])) a = none := by rw [upd_ne (Ne.symm hne)]; exact sm.free ha
    refine q _ (upd (upd H0 dx (exd dx (fldsOf (c.F n) ws []))) a (exo a (c.cl n) (some dx))) _ ((Grow.new sm hda).trans (.new s1 na)) ((pen.new sm hda fun ps z => by
      have z' : HO.ext _ = HO.tbl ps := z
      cases z').new s1 na fun ps => exo_tbl) (.exc hx upd_same (by rw [upd_ne hne, upd_same]) hu ⟨by rw [hl], fun j g v e1 e2 => ?_⟩ (rr.mono fun b o h => ?_))
    · exact (fldsOf_look (names := c.F n) (ws := ws) (acc := []) (by omega) nd (fun _ _ _ hv => nomatch hv)).1 j g v e1 e2
    · rw [upd_ne (ne_of_none h (sm.free ha)), upd_ne (ne_of_none h n0)]
      exact h
theorem s_mk {c : Nat} {kn : List String} {ks : List Nat} {id : Str} {es : List Expr} {kws : List Keyword} (o : Ok X f t W) (hm : t.hasM c kn ks = true) (hg : Gl X id) (hi : id = Str.ofString (t.en c)) (hd : (id == ("__debug__" : Str)) = false) (hh : hards r = true)
    (h : (kn = [] ∧ kws = [] ∧ es.all notStar = true ∧ es.length ≤ 900 ∧ es.length = t.ef c ∧ elen r = es.length ∧ PA X es (tL f t W r)) ∨ (kn ≠ [] ∧ es = [] ∧ kwB kn kws = true ∧ kws.length ≤ 900 ∧ PK X kws (tL f t W r) ∧ elen r = kws.length)) :
    PE X (.Call (.Name id p) es kws pos) (tE f t W (.mk c kn ks r)) := by
  obtain ⟨⟨k, M, hr⟩, hx, hu, hlen⟩ := o.mkx c kn ks hm
  subst hi
  obtain ⟨fI, fd, ps, iC, tI, F, hb⟩ := M.init
  rw [← o.hK] at iC tI F hb
  have T := M.oex
  rw [← o.hK] at T
  have key : ∀ {σ : L2.St} {H : Hp} {Q : VK}, tE f t W (.mk c kn ks r) σ H Q → tL f t W r σ H fun vs H1 => ∃ G0 ds st1, Same G0 H1 ∧ PenAt f.c G0 H1 st1 ∧ Reps f.c G0 vs ds ∧ vs.length = elen r ∧ ∃ l, dMk c kn ks ds = some (.obj (1000 + c) l) ∧ ∀ v H0' H', Grow f.c G0 H1 H0' H' → PenAt f.c H0' H' st1 → Rep f.c H0' v (.obj (1000 + c) l) → Q v H' := fun {σ H Q} hq => by
    unfold tE at hq
    rw [rpE_eq rfl] at hq
    obtain ⟨H0, ρ, st, rel, q⟩ := hq
    simp only [ev] at q
    refine ⟨H0, ρ, st, rel, q.step rel fun vs H1 ds st1 G0 g rel1 ra q1 => ?_⟩
    refine ⟨G0, ds, st1, rel1.sub, rel1.pen, rpL_hard hh ra, rpL_len ra, ?_⟩
    unfold dMk at q1 ⊢
    by_cases hk : kn.isEmpty = true
    · rw [if_pos hk] at q1 ⊢
      exact ⟨ds, rfl, fun v H0' H' g p rr => q1 v H0' H' g p rr⟩
    · rw [if_neg hk] at q1 ⊢
      cases e : pickD ds ks with
      | none =>
        rw [e] at q1
        exact q1.elim
      | some l =>
        rw [e] at q1
        exact ⟨l, rfl, fun v H0' H' g p rr => q1 v H0' H' g p rr⟩
  rcases h with ⟨rfl, rfl, h1, h2, h3, h4, ha⟩ | ⟨hk, rfl, h1, h2, ha, h3⟩
  · rw [if_pos rfl] at hb
    have fin : ∀ {Q : VK} {vs : List V} {H1 G0 : Hp} {ds : List D} {st1 : PenSt}, Same G0 H1 → PenAt f.c G0 H1 st1 → Reps f.c G0 vs ds → vs.length = elen r → (∃ l, dMk c [] ks ds = some (.obj (1000 + c) l) ∧ ∀ v H0' H', Grow f.c G0 H1 H0' H' → PenAt f.c H0' H' st1 → Rep f.c H0' v (.obj (1000 + c) l) → Q v H') →
        vs.length ≤ 1000 ∧ ∀ a, H1 a = none → spI (f.c.cl (1000 + c)) (f.c.F (1000 + c)) (V.ref a :: vs) (upd H1 a (exo a (f.c.cl (1000 + c)) none)) (fun v H3 => v = .non ∧ Q (.ref a) H3) (fun _ _ _ => False) := fun {Q vs H1 G0 ds st1} sm pen rr hv ⟨l, e, q⟩ => by
      have el : ds = l := by
        unfold dMk at e
        simpa using e
      subst el
      exact ⟨by omega, fun a ha => made_ok hx rfl hu rfl M.nd sm pen rr (by omega) q ha⟩
    cases es with
    | nil =>
      refine PEimp (pe_mkx0 T iC tI F hr hb passL hg M.gl hd) fun σ H Q hq => ?_
      have e0 : r = .nil := by
        cases r <;> simp [elen] at h4 ⊢
        all_goals first | rfl | skip
        all_goals
          have := key hq
          obtain ⟨H0, ρ, st, rel, q⟩ := this
          simp only [evs] at q
          exact q.elim
      subst e0
      obtain ⟨H0, ρ, st, rel, q⟩ := key hq
      have q := Fin.now (a := ([] : List D)) q rel.sub rel.pen (w := []) ⟨rfl, rfl⟩
      obtain ⟨G0, ds, st1, sm, pen, rr, hv, z⟩ := q
      exact fin sm pen rr hv z
    | cons x xs =>
      simp only [List.all_cons, Bool.and_eq_true] at h1
      refine PEimp (pe_mkx T iC tI F hr hb passL hg M.gl ha hd (star_cons h1.1) (star_any h1.2)) fun σ H Q hq => ?_
      exact (key hq).imp fun vs H1 ⟨G0, ds, st1, sm, pen, rr, hv, z⟩ => fin sm pen rr hv z
  · rw [if_neg hk] at hb
    obtain ⟨a1, a2, a3⟩ := kw_all (pos := pos) (env := X.env) h1
    have imp : ∀ {σ : L2.St} {H : Hp} {Q : List V → Hp → Prop}, tL f t W r σ H Q → tL f t W r σ H fun zs H1 => zs.length = (kn.map Str.ofString).length ∧ Q zs H1 := fun {σ H Q} ⟨H0, ρ, st, rel, q⟩ => by
      refine ⟨H0, ρ, st, rel, ?_⟩
      cases em : evs t.Phi f.c.F r ρ st with
      | bad => rw [em] at q; exact q
      | err e s => rw [em] at q; exact q
      | ok ds s =>
        rw [em] at q
        exact fun w H0' H' g p ra => ⟨by rw [rpL_len ra, h3, a3, List.length_map], q w H0' H' g p ra⟩
    refine PEimp (pe_mkxK T iC tI F hr hb passL hg M.gl ha a1 a2 hd (by
      rw [all_any a1]
      rfl) (by rw [a3, List.length_map]) fun σ H Q h => imp h) fun σ H Q hq => ?_
    show tL f t W r σ H _
    refine (key hq).imp fun vs H1 ⟨G0, ds, st1, sm, pen, rr, hv, l, e, q⟩ => ⟨by show 0 ≤ 1000; omega, fun a ha => ?_⟩
    have e : (pickD ds ks).map (D.obj (1000 + c)) = some (.obj (1000 + c) l) := by
      unfold dMk at e
      rw [if_neg (by simpa using hk)] at e
      exact e
    obtain ⟨l', e1, e2⟩ := Option.map_eq_some_iff.mp e
    cases e2
    have rl := pickV_reps rr e1
    rcases M.ok with z | ⟨m1, m2, m3⟩
    · exact absurd z hk
    · exact made_ok hx rfl hu rfl M.nd sm pen rl (by rw [rl.length, pickD_len e1, m2]) q ha
end
end VC
set_option Elab.async false
set_option linter.all false
set_option maxRecDepth 100000
set_option maxHeartbeats 1000000
/-! VCxf: lists of one's own are lent to a call: they stand fast as long as it runs; what comes holds no list. -/
namespace VC
open PySem PySem.Spec PyProof.Rows L2
section
variable {c : Cfg} {H : Hp} {p : Addr} {us : List V}
theorem ne_lst {b : Addr} {o : HO} (hp : H p = some (.lst us)) (hb : H b = some o) (ho : o ≠ .lst us) : b ≠ p := fun e => by
  rw [e, hp] at hb
  exact ho (Option.some.inj hb).symm
theorem exo_lst {e C : Addr} {d : Option Addr} : exo e C d ≠ .lst us := fun z => by
  have z' : HO.ext _ = HO.lst us := z
  cases z'
theorem exd_lst {e : Addr} {fs : List (Str × V)} : exd e fs ≠ .lst us := fun z => by
  have z' : HO.ext _ = HO.lst us := z
  cases z'
theorem del_at {b : Addr} {o : HO} (hp : H p = some (.lst us)) (hb : H b = some o) (ho : o ≠ .lst us) : del H p b = some o := by
  rw [del_ne (ne_lst hp hb ho)]
  exact hb
theorem del_sq {K : PySem.W.Frag} {a : Addr} {xs : List V} (hp : H p = some (.lst us)) (h : SqT K H a xs) : SqT K (del H p) a xs := by
  rcases h with (h | ⟨o, h⟩) | h
  · exact .inl (.inl (del_at hp h (by intro z; cases z)))
  · exact .inl (.inr ⟨o, del_at hp h (by intro z; cases z)⟩)
  · exact .inr h
mutual
theorem Rep.cut (hp : H p = some (.lst us)) : ∀ {v : V} {d : D}, Rep c H v d → d.noL = true → d.still = true → Rep c (del H p) v d
  | _, _, .non, _, _ => .non
  | _, _, .bl b, _, _ => .bl b
  | _, _, .int i, _, _ => .int i
  | _, _, .str s, _, _ => .str s
  | _, _, .tup h z r, n, m => .tup (del_sq hp h) z (Reps.cut hp r (by simpa [D.noL] using n) (by simpa [D.still] using m))
  | _, _, .lst _ _ _, n, _ => by cases n
  | _, _, .dic h r, n, m => .dic (del_at hp h (by intro z; cases z)) (RepKs.cut hp r (by simpa [D.noL] using n) (by simpa [D.still] using m))
  | _, _, .obj x h u f r, n, m => .obj x (del_at hp h (by intro z; cases z)) u f (Reps.cut hp r (by simpa [D.noL] using n) (by simpa [D.still] using m))
  | _, _, .exc x h hd u f r, n, m => .exc x (del_at hp h exo_lst) (del_at hp hd exd_lst) u f (Reps.cut hp r (by simpa [D.noL] using n) (by simpa [D.still] using m))
  | _, _, .exc0 x h u f, n, m => .exc0 x (del_at hp h exo_lst) u f
  | _, _, .pen, _, _ => .pen
  | _, _, .lam _ _ _ _, _, m => by cases m
theorem Reps.cut (hp : H p = some (.lst us)) : ∀ {vs : List V} {ds : List D}, Reps c H vs ds → noLs ds = true → stills ds = true → Reps c (del H p) vs ds
  | _, _, .nil, _, _ => .nil
  | _, _, .cons h r, n, m => by
    simp only [noLs, Bool.and_eq_true] at n
    simp only [stills, Bool.and_eq_true] at m
    exact .cons (Rep.cut hp h n.1 m.1) (Reps.cut hp r n.2 m.2)
theorem RepKs.cut (hp : H p = some (.lst us)) : ∀ {vs : List (Key × V)} {ds : List (Key × D)}, RepKs c H vs ds → noLkvs ds = true → stillkvs ds = true → RepKs c (del H p) vs ds
  | _, _, .nil, _, _ => .nil
  | _, _, .cons h r, n, m => by
    simp only [noLkvs, Bool.and_eq_true] at n
    simp only [stillkvs, Bool.and_eq_true] at m
    exact .cons (Rep.cut hp h n.1 m.1) (RepKs.cut hp r n.2 m.2)
end
end
/-- what stood fast for a while may be let go: behind it, what holds no list is as it was -/
structure Undo (c : Cfg) (G0 G G1 : Hp) : Prop where
  un : ∀ (K K' : Hp) (st : PenSt), Grow c G1 G K K' → PenAt c K K' st → ∃ K1, Grow c G0 G K1 K' ∧ PenAt c K1 K' st ∧ (∀ a, K a = none → K1 a = none) ∧ ∀ vs ds, Reps c K vs ds → noLs ds = true → stills ds = true → Reps c K1 vs ds
theorem Undo.refl {c : Cfg} {G0 G : Hp} : Undo c G0 G G0 := ⟨fun K K' st g p => ⟨K, g, p, fun _ h => h, fun _ _ r _ _ => r⟩⟩
theorem fix_undo {c : Cfg} {G0 G G1 : Hp} {p : Addr} {vs : List V} {st0 : PenSt} (U : Undo c G0 G G1) (sm : Same G1 G) (pen0 : PenAt c G1 G st0) (hp : G p = some (.lst vs)) (n : G1 p = none) (np : p ≠ c.pa) : Undo c G0 G (upd G1 p (.lst vs)) := by
  refine ⟨fun K K' st g pen => ?_⟩
  have kp : K p = some (.lst vs) := g.fast _ _ upd_same
  have kp' : K' p = some (.lst vs) := g.sub _ _ kp
  have nla : c.la ≠ p := fun e => by
    have := pen0.pen.2.2
    rw [e, n] at this
    cases this
  have g1 : Grow c G1 G (del K p) K' := by
    refine ⟨fun a o h => ?_, fun a o h => ?_, fun a o h1 h2 h3 h4 => ?_, g.dom⟩
    · have e : a ≠ p := ne_of_none h n
      rw [del_ne e]
      exact g.fast _ _ (by rw [upd_ne e]; exact h)
    · by_cases e : a = p
      · subst e
        rw [del_same] at h
        cases h
      · rw [del_ne e] at h
        exact g.sub _ _ h
    · by_cases e : a = p
      · subst e
        rw [hp] at h3
        cases h3
        exact ⟨kp', del_same⟩
      · rw [del_ne e]
        exact g.old a o h1 h2 h3 (by rw [upd_ne e]; exact h4)
  have p1 : PenAt c (del K p) K' st := by
    obtain ⟨⟨q0, q1, q2⟩, qt, qn⟩ := pen
    refine ⟨⟨by rw [del_ne (Ne.symm np)]; exact q0, q1, by rw [del_ne nla]; exact q2⟩, fun t ht => ?_, fun a ps h => ?_⟩
    · obtain ⟨ps, t1, t2, t3⟩ := qt t ht
      refine ⟨ps, t1, t2, fun pos cv hc => ?_⟩
      obtain ⟨c', e1, e2⟩ := t3 pos cv hc
      refine ⟨c', e1, ?_⟩
      rw [del_ne fun e => by
        rw [e, kp] at e2
        have z : HO.lst vs = HO.ext _ := Option.some.inj e2
        cases z]
      exact e2
    · by_cases e : a = p
      · subst e
        rw [del_same] at h
        cases h
      · rw [del_ne e] at h
        exact qn a ps h
  obtain ⟨K1, u1, u2, u3, u4⟩ := U.un (del K p) K' st g1 p1
  refine ⟨K1, u1, u2, fun a h => u3 a ?_, fun ws ds r n1 m1 => u4 ws ds (r.cut kp n1 m1) n1 m1⟩
  by_cases e : a = p
  · subst e
    exact del_same
  · rw [del_ne e]
    exact h
/-- the lists of a row of arguments stand fast -/
theorem lend_ok {c : Cfg} {G0 G : Hp} {st : PenSt} : ∀ {vs : List V} {ds : List D} {G1 : Hp}, Softs c G0 G vs ds → Same G0 G1 → Same G1 G → PenAt c G1 G st → Undo c G0 G G1 → ∃ G2, Same G1 G2 ∧ Same G2 G ∧ PenAt c G2 G st ∧ Undo c G0 G G2 ∧ Reps c G2 vs ds ∧ ∀ a o, G2 a = some o → G1 a = some o ∨ ∃ us, o = .lst us
  | [], _, G1, .nil, _, sm, pen, U => ⟨G1, Same.refl _, sm, pen, U, .nil, fun _ _ h => .inl h⟩
  | v :: vs, d :: ds, G1, .cons h r, s0, sm, pen, U => by
    have step : ∃ G2, Same G1 G2 ∧ Same G2 G ∧ PenAt c G2 G st ∧ Undo c G0 G G2 ∧ Rep c G2 v d ∧ ∀ a o, G2 a = some o → G1 a = some o ∨ ∃ us, o = .lst us := by
      rcases h with h | ⟨p, us, es, rfl, rfl, hp, n0, np, z, rr⟩
      · exact ⟨G1, Same.refl _, sm, pen, U, h.mono s0, fun _ _ h => .inl h⟩
      · cases e : G1 p with
        | none =>
          refine ⟨upd G1 p (.lst us), fun a o q => by rw [upd_ne (ne_of_none q e)]; exact q, fun a o q => ?_, pen.fix hp e, fix_undo U sm pen hp e np, .lst upd_same z (rr.mono fun a o q => ?_), fun a o q => ?_⟩
          · by_cases ea : a = p
            · subst ea
              rw [upd_same] at q
              rw [hp]
              exact q
            · rw [upd_ne ea] at q
              exact sm _ _ q
          · have q1 := s0 _ _ q
            rw [upd_ne (ne_of_none q1 e)]
            exact q1
          · by_cases ea : a = p
            · subst ea
              rw [upd_same] at q
              exact .inr ⟨us, (Option.some.inj q).symm⟩
            · rw [upd_ne ea] at q
              exact .inl q
        | some o =>
          have q := sm _ _ e
          rw [hp] at q
          cases q
          exact ⟨G1, Same.refl _, sm, pen, U, .lst e z (rr.mono s0), fun _ _ h => .inl h⟩
    obtain ⟨G2, a1, a2, a3, a4, a5, a6⟩ := step
    obtain ⟨G3, b1, b2, b3, b4, b5, b6⟩ := lend_ok r (s0.trans a1) a2 a3 a4
    exact ⟨G3, a1.trans b1, b2, b3, b4, .cons (a5.mono b1) b5, fun a o q => (b6 a o q).elim (a6 a o) .inr⟩
section
variable {X : Cx} {f : Cf} {t : Tab} {W : XK} {r : VC.E} {pos p : Pos}
/-- what is wanted of the call, its arguments standing fast -/
theorem tame_fin {W' : Type} {G0 G G2 : Hp} {m : M D} {st0 : PenSt} {Q : W' → Hp → Prop} {E : XK} {rp : RP W' D} {rq : RP W' D} (U : Undo f.c G0 G G2) (hq : ∀ w d K K' K1, Grow f.c G0 G K1 K' → (∀ a, K a = none → K1 a = none) → (∀ vs ds, Reps f.c K vs ds → noLs ds = true → stills ds = true → Reps f.c K1 vs ds) → d.noL = true → d.still = true → rp w d K K' → rq w d K1 K')
    (q : Fin f E rq G0 G (M.tame m st0) Q) : Fin f E rp G2 G (m st0) Q := by
  unfold M.tame at q
  cases em : m st0 with
  | bad =>
    rw [em] at q
    exact q
  | ok d s' =>
    simp only [em] at q
    split at q
    · rename_i z
      simp only [Bool.and_eq_true] at z
      intro w K K' g pen r
      obtain ⟨K1, u1, u2, u3, u4⟩ := U.un K K' s' g pen
      exact q w K1 K' u1 u2 (hq w d K K' K1 u1 u3 u4 z.1 z.2 r)
    · exact q.elim
  | err e s' =>
    simp only [em] at q
    split at q
    · rename_i z
      simp only [Bool.and_eq_true] at z
      intro cls dd K K' g pen ea
      obtain ⟨K1, u1, u2, u3, u4⟩ := U.un K K' s' g pen
      obtain ⟨c1, dx, fs, vs, c2, c3, c4, c5, c6, c7⟩ := ea
      exact q cls dd K1 K' u1 u2 ⟨c1, dx, fs, vs, c2, c3, u3 _ c4, c5, c6, u4 _ _ c7 z.1 z.2⟩
    · exact q.elim
theorem s_callB {x : Expr} {es : List Expr} {id : Str} {n : Nat} (k : Ok X f t W) (hn : t.has n = true) (hg : Gl X id) (he : id = Str.ofString (t.nm n)) (hd : (id == ("__debug__" : Str)) = false) (hs : (x :: es).all notStar = true) (ha : PA X (x :: es) (tL f t W r)) :
    PE X (.Call (.Name id p) (x :: es) [] pos) (tE f t W (.callB n r)) := by
  subst he
  obtain ⟨fa, fd, ps, lv, hm, hk, F, hl, hb, hz⟩ := (k.fns n hn).ok
  refine ⟨fun pins s σ H Q I h => ?_⟩
  unfold tE at h
  rw [rpE_eq rfl] at h
  obtain ⟨H0, ρ, st, rel, q⟩ := h
  simp only [ev] at q
  simp only [List.all_cons, Bool.and_eq_true] at hs
  refine wpAny_Call_Name_kw (ld_glob I hg hm ?_ hd)
  refine PySem.W.callWith_K (h₀ := X.base) I.ok.mod.kin hk (thn (ha.run pos pins s σ H (fun vs H1 => ∃ ds st1 G2, Same G2 H1 ∧ PenAt f.c G2 H1 st1 ∧ Reps f.c G2 vs ds ∧ Fin f W (hardP f.c) G2 H1 (t.Phi n ds st1) Q) I ⟨H0, ρ, st, rel, q.step rel fun vs H1 ds st1 G0 g rel1 ra q1 => ?_⟩) fun us s1 ⟨vs, H1, I1, rv, ds, st1, G2, sm2, pen2, ra, q1⟩ => ⟨I1.kIn, ?_⟩) (star_cons hs.1) (star_any hs.2)
  · obtain ⟨G2, a1, a2, a3, a4, a5, _⟩ := lend_ok (st := st1) (rpL_soft ra) (Same.refl _) rel1.sub rel1.pen Undo.refl
    exact ⟨ds, st1, G2, a2, a3, a5, tame_fin (rq := hardP f.c) a4 (fun w d K K' K1 _ _ h3 h4 h5 h6 => by
      have := h3 [w] [d] (.cons h6 .nil) (by simp [noLs, h4]) (by simp [stills, h5])
      cases this with
      | cons z _ => exact z) q1⟩
  have hne : t.Phi n ds st1 ≠ .bad := fun e => by
    rw [e] at q1
    exact q1
  have hlen : us.length = ps.length := by
    rw [← rv.length, ra.length]
    exact hz ds st1 hne
  refine wpAny_call (codeAny_mono (F.run X.A X.stack s1 H1 ⟨us, []⟩ us vs Q W k.grd hl I1.env0 ?_ rv ⟨G2, ds, st1, sm2, pen2, ra, by rw [rv.length]; exact hlen, q1⟩) fun r s' hq => ?_)
  · have := hb s1 us I1.kIn (by rw [List.append_nil]; exact hlen)
    rw [List.append_nil] at this
    exact this
  cases r with
  | error e => exact k.pas pins σ H1 s1 e s' I1 hq
  | ok fl =>
    cases fl with
    | ret u => exact I1.after hq
    | next => exact False.elim hq
    | brk => exact False.elim hq
    | cont => exact False.elim hq
theorem Softs.mono {c : Cfg} {H0 H H0' H' : Hp} (g : Grow c H0 H H0' H') : ∀ {vs : List V} {ds : List D}, Softs c H0 H vs ds → Softs c H0' H' vs ds
  | _, _, .nil => .nil
  | _, _, .cons h r => .cons (softP_mono g h) (r.mono g)
/-- an object that is ready stands fast from now on -/
theorem grow_fix {c : Cfg} {G0 G K K' : Hp} {a : Addr} {o : HO} (g : Grow c G0 G K K') (h : K' a = some o) (n : K a = none) (n2 : G a = none) : Grow c G0 G (upd K a o) K' := by
  refine ⟨fun b u q => ?_, fun b u q => ?_, fun b u h1 h2 h3 h4 => ?_, g.dom⟩
  · have q := g.fast _ _ q
    rw [upd_ne (ne_of_none q n)]
    exact q
  · by_cases e : b = a
    · subst e
      rw [upd_same] at q
      cases q
      exact h
    · rw [upd_ne e] at q
      exact g.sub _ _ q
  · rw [upd_ne (ne_of_none h3 n2)]
    exact g.old b u h1 h2 h3 h4
theorem pen_fix {c : Cfg} {K K' : Hp} {st : PenSt} {a : Addr} {o : HO} (p : PenAt c K K' st) (n : K a = none) (np : a ≠ c.pa) (ho : ∀ ps, o ≠ .tbl ps) : PenAt c (upd K a o) K' st := by
  obtain ⟨⟨h0, h1, h2⟩, ht, hn⟩ := p
  refine ⟨⟨by rw [upd_ne (Ne.symm np)]; exact h0, h1, by rw [upd_ne (ne_of_none h2 n)]; exact h2⟩, ht.ext (fun b u e => by rw [upd_ne (ne_of_none e n)]; exact e) (fun _ _ e => e), fun b ps e => ?_⟩
  by_cases eb : b = a
  · subst eb
    rw [upd_same] at e
    exact ho ps (Option.some.inj e)
  · rw [upd_ne eb] at e
    exact hn b ps e
theorem s_mkI {x : Expr} {es : List Expr} {id : Str} {n : Nat} (k : Ok X f t W) (hn : t.hasI n = true) (hg : Gl X id) (he : id = Str.ofString (t.cn n)) (hd : (id == ("__debug__" : Str)) = false) (hs : (x :: es).all notStar = true) (ha : PA X (x :: es) (tL f t W r)) :
    PE X (.Call (.Name id p) (x :: es) [] pos) (tE f t W (.mkI n r)) := by
  subst he
  obtain ⟨lv, M, hr⟩ := k.mki n hn
  obtain ⟨fa, fd, ps, MK, F, hb, hz⟩ := M.run
  rw [← k.hK] at MK F hb
  refine ⟨fun pins s σ H Q I h => ?_⟩
  unfold tE at h
  rw [rpE_eq rfl] at h
  obtain ⟨H0, ρ, st, rel, q⟩ := h
  simp only [ev] at q
  simp only [List.all_cons, Bool.and_eq_true] at hs
  refine wpAny_Call_Name_kw (ld_glob I hg M.gl ?_ hd)
  refine PySem.W.callWith_K (h₀ := X.base) I.ok.mod.kin MK.kp (thn (ha.run pos pins s σ H (fun vs H1 => ∃ ds st1 G0, Rel f.c G0 H1 σ ρ st1 ∧ rpL f.c r vs ds G0 H1 ∧ Fin f W (hardP f.c) G0 H1 ((if hards r then t.Phi (5000 + n) ds else VC.M.tame (t.Phi (5000 + n) ds)) st1) Q) I ⟨H0, ρ, st, rel, q.step rel fun vs H1 ds st1 G0 g rel1 ra q1 => ⟨ds, st1, G0, rel1, ra, q1⟩⟩) fun us s1 ⟨vs, H1, I1, rv, ds, st1, G0, rel1, ra, q1⟩ => ⟨I1.kIn, ?_⟩) (star_cons hs.1) (star_any hs.2)
  show wpAny _ _ (call (.ref (f.c.cl n)) us) _ _ _
  have I2 := Inv.made (C := f.c.cl n) I1
  have na : H1 (s1.heap.objs.size + 1) = none := I1.hok.fresh (Nat.le_succ _)
  have nd : H1 s1.heap.objs.size = none := I1.hok.fresh (Nat.le_refl _)
  have ne : s1.heap.objs.size ≠ s1.heap.objs.size + 1 := Nat.ne_of_lt (Nat.lt_succ_self _)
  have na' : upd H1 s1.heap.objs.size (.own (s1.heap.objs.size + 1)) (s1.heap.objs.size + 1) = none := by rw [upd_ne (Ne.symm ne)]; exact na
  have g1 : Grow f.c G0 H1 G0 (upd H1 s1.heap.objs.size (.own (s1.heap.objs.size + 1))) := .loose rel1.sub nd
  have pen1 : PenAt f.c G0 (upd H1 s1.heap.objs.size (.own (s1.heap.objs.size + 1))) st1 := rel1.pen.loose nd
  have npa : s1.heap.objs.size + 1 ≠ f.c.pa := rel1.pen.npa na
  have key : ∀ (m : VC.M D), Fin f W (hardP f.c) G0 H1 (m st1) Q → Fin f W (fun (v : V) (d : D) H0' H' => v = .non ∧ ∃ l dx gs us, d = .obj n l ∧ H' (s1.heap.objs.size + 1) = some (.ins (f.c.cl n) dx gs) ∧ H0' (s1.heap.objs.size + 1) = none ∧ FldsAre (f.c.F n) gs us ∧ Reps f.c H0' us l) G0
      (upd H1 s1.heap.objs.size (.own (s1.heap.objs.size + 1))) (m st1) (fun v H' => v = .non ∧ Q (.ref (s1.heap.objs.size + 1)) H') := fun m q1 => by
    cases em : m st1 with
    | bad =>
      rw [em] at q1
      exact q1
    | err e s' =>
      rw [em] at q1
      exact fun cls dd K K' g pp ea => q1 cls dd K K' (g1.trans g) pp ea
    | ok d s' =>
      rw [em] at q1
      rintro w K K' g pp ⟨rfl, l, dx, gs, us', rfl, e2, e3, e4, e5⟩
      refine ⟨rfl, q1 (.ref (s1.heap.objs.size + 1)) (upd K (s1.heap.objs.size + 1) (.ins (f.c.cl n) dx gs)) K' (grow_fix (g1.trans g) e2 e3 na) (pen_fix pp e3 npa ins_nt) (.obj M.xs upd_same M.us e4 (e5.mono fun b o h => ?_))⟩
      rw [upd_ne (ne_of_none h e3)]
      exact h
  have two : ∃ G2, Same G2 (upd H1 s1.heap.objs.size (.own (s1.heap.objs.size + 1))) ∧ PenAt f.c G2 (upd H1 s1.heap.objs.size (.own (s1.heap.objs.size + 1))) st1 ∧ Reps f.c G2 vs ds ∧ Fin f W (fun (v : V) (d : D) H0' H' => v = .non ∧ ∃ l dx gs us, d = .obj n l ∧ H' (s1.heap.objs.size + 1) = some (.ins (f.c.cl n) dx gs) ∧ H0' (s1.heap.objs.size + 1) = none ∧ FldsAre (f.c.F n) gs us ∧ Reps f.c H0' us l) G2
      (upd H1 s1.heap.objs.size (.own (s1.heap.objs.size + 1))) (t.Phi (5000 + n) ds st1) (fun v H' => v = .non ∧ Q (.ref (s1.heap.objs.size + 1)) H') := by
    by_cases hh : hards r = true
    · rw [if_pos hh] at q1
      exact ⟨G0, g1.sub, pen1, rpL_hard hh ra, key _ q1⟩
    · rw [if_neg hh] at q1
      obtain ⟨G2, a1, a2, a3, a4, a5, a6⟩ := lend_ok (st := st1) ((rpL_soft ra).mono g1) (Same.refl _) g1.sub pen1 Undo.refl
      refine ⟨G2, a2, a3, a5, tame_fin (rq := fun (v : V) (d : D) H0' H' => v = .non ∧ ∃ l dx gs us, d = .obj n l ∧ H' (s1.heap.objs.size + 1) = some (.ins (f.c.cl n) dx gs) ∧ H0' (s1.heap.objs.size + 1) = none ∧ FldsAre (f.c.F n) gs us ∧ Reps f.c H0' us l) a4 (fun w d K K' K1 _ h2 h3 h4 h5 h6 => ?_) (key _ q1)⟩
      obtain ⟨e1, l, dx, gs, us', rfl, e2, e3, e4, e5⟩ := h6
      exact ⟨e1, l, dx, gs, us', rfl, e2, h2 _ e3, e4, h3 _ _ e5 (by simpa [D.noL] using h4) (by simpa [D.still] using h5)⟩
  obtain ⟨G2, a2, a3, a5, hfin⟩ := two
  have hne : t.Phi (5000 + n) ds st1 ≠ .bad := fun e => by
    rw [e] at hfin
    exact hfin
  have hl : (us.length : Nat) + 1 = ps.length := by
    rw [← rv.length, a5.length]
    exact hz ds st1 hne
  refine wpAny_call (make_map (f := fa) I1.kIn MK.makes MK.init (beq_iff_eq.mp MK.fn) (codeAny_mono (F.run _ X.stack _ _ ⟨Value.ref (s1.heap.objs.size + 1) :: us, []⟩ (Value.ref (s1.heap.objs.size + 1) :: us) (V.ref (s1.heap.objs.size + 1) :: vs) _ W k.grd (hr.make (f.c.cl n) us [])
    (I2.env0.make (f.c.cl n) us []) ?_ (.cons rfl rv) ⟨G2, _, _, _, vs, ds, st1, rfl, by rw [List.length_cons, rv.length]; exact hl, rfl, na', a2, a3, npa, a5, hfin⟩) fun r s' hq' => ?_))
  · have := hb _ (Value.ref (s1.heap.objs.size + 1) :: us) I2.kIn (by rw [List.append_nil, List.length_cons]; exact hl)
    rw [List.append_nil] at this
    exact this
  · cases r with
    | error e => exact k.pas pins σ _ _ e s' I2 hq'
    | ok fl =>
      cases fl with
      | ret u =>
        obtain ⟨v, H', I3, rv', ev, q3⟩ := I2.after hq'
        subst ev
        exact ⟨rv', ⟨V.ref (s1.heap.objs.size + 1), H', I3, rfl, q3⟩⟩
      | next => exact False.elim hq'
      | brk => exact False.elim hq'
      | cont => exact False.elim hq'
end
end VC
set_option Elab.async false
set_option linter.all false
set_option maxRecDepth 100000
set_option maxHeartbeats 1000000
/-! VCxg: ==, != of an instance of an own class with an __eq__ of its own. -/
namespace VC
open PySem PySem.Spec PyProof.Rows L2
section
variable {X : Cx} {f : Cf} {t : Tab} {W : XK} {a b : VC.E} {x y : Expr} {pos : Pos}
/-- by values: the two stand, the own __eq__ is asked -/
def rEqO (f : Cf) (t : Tab) (W : XK) (neg : Bool) (n : Nat) : R2 := fun x y H Q => ∃ H0 dx dy st, Same H0 H ∧ PenAt f.c H0 H st ∧ Rep f.c H0 x dx ∧ Rep f.c H0 y dy ∧ D.isObj n dx = true ∧ D.okEq neg n dy = true ∧
  Fin f W (fun v (b : Bool) _ _ => v = V.bl b) H0 H (M.bind (t.Phi (6000 + n) [dx, dy]) (M.of ∘ dNeg neg) st) Q
theorem eqO_ok {neg : Bool} {n : Nat} (k : Ok X f t W) (hn : t.hasQ n = true) : OpR X (compareOp (if neg then .NotEq else .Eq)) (rEqO f t W neg n) := by
  intro pins s σ H vx vy u1 u2 Q I rx ry ⟨H0, dx, dy, st, sm, pen, r1, r2, hx, hy, q⟩
  obtain ⟨lv, T, hr⟩ := k.eqs n hn
  obtain ⟨fa, fd, ps, h1, h2, F, hb, hl, hq, fo, hfo, hfc⟩ := T.run
  have hK := k.hK
  rw [← hK] at h1 h2 F hb hq hfo
  -- the left one
  unfold D.isObj at hx
  split at hx
  · rename_i m l
    have hx : m = n := by simpa using hx
    subst hx
    cases r1 with
    | exc z _ _ _ _ _ => rw [T.xs] at z; cases z
    | exc0 z _ _ _ => rw [T.xs] at z; cases z
    | @obj a dxA fs _ vs _ hxs ha hu fl rs =>
      obtain rfl : u1 = Value.ref a := rx
      have ha1 := sm _ _ ha
      obtain ⟨mA, J, _⟩ := ins_get I.hok ha1
      obtain ⟨od, J, _⟩ := J.look
      obtain ⟨m', hF⟩ := I.fr
      have hvs : Vals [V.ref a, vy] [Value.ref a, u2] := .cons rfl (.cons ry .nil)
      have rr : Reps f.c H0 [V.ref a, vy] [.obj m l, dy] := .cons (.obj hxs ha hu fl rs) (.cons r2 .nil)
      have hne : t.Phi (6000 + m) [.obj m l, dy] st ≠ .bad := fun e => by
        unfold M.bind at q
        rw [e] at q
        exact q
      have call : ∀ (A : Around), A.guards = some [] → Room lv A → A.frames = X.A.frames → ∀ {Q' : Value → Shared → Prop}, (∀ (b : Bool) (H' : Hp) (s' : Shared), Inv X pins σ H' s' → Q (.bl (if neg then !b else b)) H' → Q' (.bool b) s') → wpAny (model X.prog X.w) A (call (.ref fa) [.ref a, u2]) Q' X.xe s := fun A hg hrA hfr {Q'} hq' => by
        have e0 : Env0 X.prog X.w X.K X.mg X.base A X.stack s H := by
          have e := I.env0
          exact ⟨by rw [hfr]; exact e.frames, e.mod, e.bs, e.bsz, e.funs, e.frf, e.hok, e.bare⟩
        have hbb := hb s [.ref a, u2] I.kIn (by rw [List.append_nil, hl]; rfl)
        rw [List.append_nil] at hbb
        have hfin : Fin f W (hardP f.c) H0 H (t.Phi (6000 + m) [.obj m l, dy] st) (fun v H' => ∃ b, v = .bl b ∧ Q (.bl (if neg then !b else b)) H') := by
          unfold M.bind at q
          cases em : t.Phi (6000 + m) [.obj m l, dy] st with
          | bad => exact absurd em hne
          | err e s1 =>
            rw [em] at q
            exact q
          | ok d s1 =>
            rw [em] at q
            intro v K K' g pp rv
            cases d with
            | bl b =>
              cases rv
              exact ⟨b, rfl, q _ K K' g pp rfl⟩
            | _ => exact q.elim
        refine wpAny_call (codeAny_mono (F.run A X.stack s H ⟨[.ref a, u2], []⟩ [.ref a, u2] [V.ref a, vy] _ W hg hrA e0 hbb hvs ⟨H0, [.obj m l, dy], st, sm, pen, rr, by rw [hl]; rfl, hfin⟩) fun r s' hq2 => ?_)
        cases r with
        | error e => exact k.pas pins σ H s e s' I hq2
        | ok fl =>
          cases fl with
          | ret w =>
            obtain ⟨z, H', I', rz, b, ez, qz⟩ := I.after hq2
            subst ez
            cases rz
            exact hq' b H' s' I' qz
          | next => exact False.elim hq2
          | brk => exact False.elim hq2
          | cont => exact False.elim hq2
      have hlam : ∀ kk, dy ≠ .lam kk := fun kk e => by
        subst e
        cases hy
      cases neg with
      | false =>
        obtain ⟨P, Z, p, _⟩ := kit_ofY I ry (by rw [hK]; exact soft_ty sm ⟨_, pen⟩ k.objs hlam (.inl r2))
        show wpAny (model X.prog X.w) X.A (richCompare .Eq (.ref a) u2) (EP X pins σ Q) X.xe s
        refine PySem.W.cmp_K (op := .Eq) (tb := tyOf f.c dy) (hr.mono (Nat.le_succ _)).units0 hF I.ok.mod.kin J (Z.ty _ _ I.kIn p) (by rw [hK]; exact T.nf dy (soft_obj (H := H) (.inl r2))) h1 h2 ?_
        exact call X.A k.grd (hr.mono (Nat.le_succ _)) rfl fun b H' s' I' qz => ⟨.bl b, H', I', rfl, qz⟩
      | true =>
        unfold D.okEq at hy
        split at hy
        · cases hy
        · rename_i m2 l2
          have hy : m2 = m := by simpa using hy
          subst hy
          cases r2 with
          | exc z _ _ _ _ _ => rw [T.xs] at z; cases z
          | exc0 z _ _ _ => rw [T.xs] at z; cases z
          | @obj a2 dx2 fs2 _ vs2 _ hxs2 ha2 hu2 fl2 rs2 =>
            obtain rfl : u2 = Value.ref a2 := ry
            have hb1 := sm _ _ ha2
            obtain ⟨mB, J2, _⟩ := ins_get I.hok hb1
            obtain ⟨hp, g, d, tk, os⟩ := s
            refine compareOp_ne_ownEq PySem.F.cmp_object (eqCls_ok I.kIn hq J.1 rfl (I.kIn _ _ hfo) hfc) J2.1 rfl (by have := hr.un; omega) ?_
            exact call X.A.in1 (by exact k.grd) hr.in1 rfl fun b H' s' I' qz => ⟨b, rfl, .bl (!b), H', I', rfl, qz⟩
        · cases hy
  · cases hx
theorem eqO_read {neg : Bool} {n : Nat} (na : isBor a = false) (nb : isBor b = false) {rp : RP V D} {σ : L2.St} {H : Hp} {Q : VK} (h : tM f W (hardP f.c) (ev t.Phi f.c.F (.eqO neg n a b)) σ H Q) :
    tOp (rEqO f t W neg n) (tM f W (rpE f.c a) (ev t.Phi f.c.F a)) (tM f W (rpE f.c b) (ev t.Phi f.c.F b)) σ H Q := by
  obtain ⟨H0, ρ, st, rel, q⟩ := h
  simp only [ev] at q
  refine ⟨H0, ρ, st, rel, q.step rel fun w H1 da st1 G0 g rel1 ra q1 => ?_⟩
  refine ⟨G0, ρ, st1, rel1, q1.step rel1 fun u H2 db st2 G1 g2 rel2 rb q2 => ?_⟩
  by_cases hc : (da.isObj n && db.okEq neg n) = true
  · rw [if_pos hc] at q2
    simp only [Bool.and_eq_true] at hc
    refine ⟨G1, da, db, st2, rel2.sub, rel2.pen, rpE_hard na (rpE_mono g2 ra), rpE_hard nb rb, hc.1, hc.2, ?_⟩
    exact (Fin.bind (rp := fun v (b : Bool) _ _ => v = V.bl b) q2).imp fun v H' ⟨bb, s1, K, g3, p3, e, z⟩ => by
      subst e
      exact z _ K H' (.refl g3.sub) p3 (.bl bb)
  · rw [if_neg hc] at q2
    exact q2.elim
theorem s_eqO {neg : Bool} {n : Nat} (k : Ok X f t W) (hn : t.hasQ n = true) (na : isBor a = false) (nb : isBor b = false) (hm : behindInMarks (if neg then .NotEq else .Eq) y = false) (ha : PE X x (tE f t W a)) (hb : PE X y (tE f t W b)) : PE X (.Compare x [if neg then .NotEq else .Eq] [y] pos) (tE f t W (.eqO neg n a b)) :=
  PEimp (pe_cmpR (eqO_ok k hn) ha hb hm) fun σ H Q h => by
    unfold tE at h
    rw [rpE_eq rfl] at h
    exact eqO_read (rp := hardP f.c) na nb h
theorem eqO_readT {neg : Bool} {n : Nat} (na : isBor a = false) (nb : isBor b = false) {σ : L2.St} {H : Hp} {Q : Bool → Hp → Prop} (h : tB f t W (.eqO neg n a b) σ H Q) :
    tOp (rEqO f t W neg n) (tM f W (rpE f.c a) (ev t.Phi f.c.F a)) (tM f W (rpE f.c b) (ev t.Phi f.c.F b)) σ H fun v H' => ∃ k, v = .bl k ∧ Q k H' := by
  obtain ⟨H0, ρ, st, rel, q⟩ := h
  simp only [ev, M.bind_bind] at q
  refine ⟨H0, ρ, st, rel, q.step rel fun w H1 da st1 G0 g rel1 ra q1 => ?_⟩
  refine ⟨G0, ρ, st1, rel1, q1.step rel1 fun u H2 db st2 G1 g2 rel2 rb q2 => ?_⟩
  by_cases hc : (da.isObj n && db.okEq neg n) = true
  · rw [if_pos hc] at q2
    simp only [Bool.and_eq_true] at hc
    simp only [M.bind_bind, M.bind_ret, dtruth, M.of_some] at q2
    rw [← M.bind_bind] at q2
    refine ⟨G1, da, db, st2, rel2.sub, rel2.pen, rpE_hard na (rpE_mono g2 ra), rpE_hard nb rb, hc.1, hc.2, ?_⟩
    exact (Fin.bind (rp := fun v (b : Bool) _ _ => v = V.bl b) q2).imp fun v H' ⟨bb, s1, K, g3, p3, e, z⟩ => by
      subst e
      exact ⟨bb, rfl, z _ K H' (.refl g3.sub) p3 rfl⟩
  · rw [if_neg hc] at q2
    exact q2.elim
theorem t_eqO {neg : Bool} {n : Nat} (k : Ok X f t W) (hn : t.hasQ n = true) (na : isBor a = false) (nb : isBor b = false) (hm : behindInMarks (if neg then .NotEq else .Eq) y = false) (ha : PE X x (tE f t W a)) (hb : PE X y (tE f t W b)) : PT X (.Compare x [if neg then .NotEq else .Eq] [y] pos) (tB f t W (.eqO neg n a b)) :=
  PTimp (pt_cmpR (eqO_ok k hn) ha hb hm) fun σ H Q h => eqO_readT na nb h
end
end VC
set_option Elab.async false
set_option linter.all false
set_option maxRecDepth 100000
set_option maxHeartbeats 1000000
/-! VCm: a checked expression is what the evaluator says. -/
namespace VC
open PySem PySem.Spec PyProof.Rows L2
structure Good (f : Cf) (t : Tab) (e : VC.E) : Prop where
  pe : ∀ {X : Cx} {W : XK} {x : Expr}, Ok X f t W → chk X.N f.c.used t e X.env.scope x = true → PE X x (tE f t W e)
  pt : ∀ {X : Cx} {W : XK} {x : Expr}, Ok X f t W → chk X.N f.c.used t e X.env.scope x = true → PT X x (tB f t W e)
  pw : ∀ {X : Cx} {W : XK} {op : BoolOp} {vs : List Expr} {pos : Pos}, Ok X f t W → chk X.N f.c.used t e X.env.scope (.BoolOp op vs pos) = true → PW X (.BoolOp op vs pos) (tB f t W e)
  pa : ∀ {X : Cx} {W : XK} {xs : List Expr}, Ok X f t W → chks X.N f.c.used t e X.env.scope xs = true → PA X xs (tL f t W e)
  ln : ∀ {N : List Str} {sc : Scope} {xs : List Expr}, chks N f.c.used t e sc xs = true → elen e = xs.length
  po : ∀ {X : Cx} {W : XK} {x : Option Expr}, Ok X f t W → chko X.N f.c.used t e X.env.scope x = true → PO X x (tO f t W e)
  hd : ∀ a r, e = .cons a r → ∀ {X : Cx} {W : XK} {x : Expr}, Ok X f t W → chk X.N f.c.used t a X.env.scope x = true → PE X x (tE f t W a)
  pc : ∀ {X : Cx} {W : XK} {xs : List Expr}, Ok X f t W → chkc X.N f.c.used t e X.env.scope xs = true → PTs X xs (tC f t W e)
  nth : ∀ k a, nthE e k = some a → ∀ {X : Cx} {W : XK} {x : Expr}, Ok X f t W → chk X.N f.c.used t a X.env.scope x = true → PE X x (tE f t W a)
theorem PTsimp {X : Cx} {e : List Expr} {u u' : TT} (h : PTs X e u) (k : ∀ σ H Q, u' σ H Q → u σ H Q) : PTs X e u' := ⟨fun pins s σ H Q I q => h.run pins s σ H Q I (k _ _ _ q)⟩
section
variable {f : Cf} {t : Tab}
def isArg : VC.E → Bool
  | .nil => true
  | .cons _ _ => true
  | _ => false
theorem Good.mk' {e : VC.E} (na : isArg e = false) (pe : ∀ {X : Cx} {W : XK} {x : Expr}, Ok X f t W → chk X.N f.c.used t e X.env.scope x = true → PE X x (tE f t W e) ∧ (plainTest x = true ∨ (∀ op vs pos, x ≠ .BoolOp op vs pos) ∧ PT X x (tB f t W e)))
    (h1 : ∀ N sc xs, chks N f.c.used t e sc xs = false) (h2 : ∀ N sc xs, chko N f.c.used t e sc xs = false) (h3 : ∀ N sc xs, chkc N f.c.used t e sc xs = false) : Good f t e where
  pe := fun o h => (pe o h).1
  pt := fun o h => by
    rcases (pe o h).2 with q | q
    · exact pt_of o.hK (pe o h).1 q
    · exact q.2
  pw := fun {X W op vs pos} o h => by
    rcases (pe o h).2 with q | q
    · cases q
    · exact absurd rfl (q.1 op vs pos)
  pa := fun o h => by rw [h1] at h; cases h
  ln := fun h => by rw [h1] at h; cases h
  po := fun o h => by rw [h2] at h; cases h
  hd := fun a r e => by subst e; cases na
  pc := fun o h => by rw [h3] at h; cases h
  nth := fun k a z => by cases e <;> first | (cases na; done) | (cases z; done)
theorem noS {e : VC.E} (h : isArg e = false) (N : List Str) (sc : Scope) (xs : List Expr) : chks N f.c.used t e sc xs = false := by
  cases e <;> first | (cases h; done) | (unfold chks; rfl)
theorem noO {e : VC.E} (h : isArg e = false) (N : List Str) (sc : Scope) (xs : Option Expr) : chko N f.c.used t e sc xs = false := by
  cases e <;> first | (cases h; done) | (unfold chko; rfl)
theorem noC {e : VC.E} (h : isArg e = false) (N : List Str) (sc : Scope) (xs : List Expr) : chkc N f.c.used t e sc xs = false := by
  cases e <;> first | (cases h; done) | (unfold chkc; rfl)
theorem elt_ok {N : List Str} {sc scope : Scope} {is : List Nat} (h : blkB N sc scope is = true) : BlkOk N sc scope (ownsOf N is) ∧ (ownsOf N is).map (·.2) = is := by
  unfold blkB at h
  simp only [Bool.and_eq_true, decide_eq_true_eq, List.all_eq_true, Bool.or_eq_true, Bool.not_eq_true', beq_iff_eq, beq_eq_false_iff_ne, Bool.or_eq_false_iff, List.any_eq_true] at h
  obtain ⟨⟨⟨⟨h1, h2⟩, h3⟩, h4⟩, h5⟩ := h
  refine ⟨⟨h1, fun y hy => h2 y hy, fun p hp => ?_, fun y hy e => ?_, fun y hy e => ?_⟩, ?_⟩
  · unfold ownsOf at hp
    obtain ⟨i, _, e⟩ := List.mem_filterMap.mp hp
    cases e2 : N[i]? with
    | none => rw [e2] at e; cases e
    | some x =>
      rw [e2] at e
      cases e
      exact e2
  · rcases h4 y hy with (q | q) | q
    · exact absurd e q
    · exact .inl q
    · exact .inr q
  · rcases h5 y hy with (⟨q1, q2⟩ | ⟨p, hp, q⟩) | q
    · rcases e with e | e
      · exact absurd e q1
      · exact absurd e q2
    · exact .inl (List.mem_map.mpr ⟨p, hp, q⟩)
    · exact .inr (by simpa using q)
  · unfold ownsOf
    have : ∀ is : List Nat, (∀ i ∈ is, (N[i]?).isSome = true) → (is.filterMap fun i => (N[i]?).map fun x => (x, i)).map (·.2) = is := by
      intro is
      induction is with
      | nil => intro _; rfl
      | cons i is ih =>
        intro hh
        obtain ⟨x, ex⟩ := Option.isSome_iff_exists.mp (hh i List.mem_cons_self)
        rw [List.filterMap_cons, ex]
        show i :: _ = i :: _
        rw [ih fun j m => hh j (List.mem_cons_of_mem _ m)]
    exact this is h3
theorem relS_look {scope sc : Scope} {x : Str} {k : NameKind} (h : scope.names.lookup x = some k) (hk : k ≠ .free) : (relS scope sc).names.lookup x = some k := by
  unfold relS
  simp only
  generalize scope.names = ns at h
  induction ns with
  | nil => cases h
  | cons p ns ih =>
    obtain ⟨n, j⟩ := p
    rw [List.lookup_cons] at h
    rw [List.map_cons]
    by_cases e : (x == n) = true
    · rw [e] at h
      cases h
      have : (k == NameKind.free) = false := beq_eq_false_iff_ne.mpr hk
      simp only [this, Bool.false_and, Bool.false_eq_true, if_false, List.lookup_cons, e]
    · have e : (x == n) = false := by simpa using e
      rw [e] at h
      have ih := ih h
      split
      · rw [List.lookup_cons, e]
        exact ih
      · rw [List.lookup_cons, e]
        exact ih
theorem tg_blk {X : Cx} {s : Shared} {H : Hp} {C : Addr} {cl : List (Str × Addr)} {fp : List Addr} {scope : Scope} {tg : Tg} {x : Expr} (h : tgB X.N scope tg x = true) : tgOk (X.blk s H scope (compEnvC scope cl C X.env) fp) tg x := by
  have nm : ∀ {i : Nat} {y : Str} {p : Pos}, X.N[i]? = some y → (scope.names.lookup y = some .local ∨ scope.names.lookup y = some .cell) → nmB (X.blk s H scope (compEnvC scope cl C X.env) fp) i (.Name y p) := fun {i y p} e1 e2 => by
    refine ⟨e1, ?_, ?_⟩
    · rcases e2 with e2 | e2
      · exact .inl (relS_look (sc := X.env.scope) e2 (by decide))
      · exact .inr (relS_look (sc := X.env.scope) e2 (by decide))
    · rcases e2 with e2 | e2
      · exact .inr (relS_look (sc := X.env.scope) e2 (by decide))
      · exact .inl (by simpa using e2)
  unfold tgB at h
  split at h
  · rename_i i y q
    simp only [Bool.and_eq_true, Bool.or_eq_true, beq_iff_eq] at h
    exact nm (p := q) h.1 h.2
  · simp only [Bool.and_eq_true, beq_iff_eq, List.all_eq_true] at h
    refine ⟨h.1, fun p hp => ?_⟩
    have := h.2 p hp
    split at this
    · rename_i y q e
      simp only [Bool.and_eq_true, Bool.or_eq_true, beq_iff_eq] at this
      rw [e]
      exact nm this.1 this.2
    · cases this
  · cases h
theorem fold_ok {x : Expr} {env : PySem.Env} (h : ∀ es k p, x ≠ .Set es k p) : ∀ v, foldedSetIterable x env v = pure v := by
  intro v
  cases x <;> first | rfl | exact absurd rfl (h _ _ _)
theorem chk_set {e : VC.E} {N : List Str} {sc : Scope} {es : List Expr} {k : Nat} {p : Pos} : chk N f.c.used t e sc (.Set es k p) = false := by
  cases e <;> (unfold chk; rfl)
/-! list(range(..)) -/
theorem Reps.of_get {c : Cfg} {H0 : Hp} : ∀ {vs : List V} {ds : List D}, vs.length = ds.length → (∀ (i : Nat) v d, vs[i]? = some v → ds[i]? = some d → Rep c H0 v d) → Reps c H0 vs ds
  | [], [], _, _ => .nil
  | v :: vs, d :: ds, hl, h => .cons (h 0 v d rfl rfl) (Reps.of_get (by simpa using hl) fun i v d e1 e2 => h (i + 1) v d (by simpa using e1) (by simpa using e2))
  | [], _ :: _, hl, _ => by cases hl
  | _ :: _, [], hl, _ => by cases hl
theorem reps_rg {c : Cfg} {H0 : Hp} (a b : Int) : Reps c H0 (rgV a b) (upTo a (b - a).toNat) := by
  refine .of_get (by rw [rgV_length, upTo_length]) fun i v d e1 e2 => ?_
  have hi : i < (b - a).toNat := by
    have := (List.getElem?_eq_some_iff.mp e2).1
    rwa [upTo_length] at this
  rw [upTo_get _ _ _ hi] at e2
  cases e2
  unfold rgV at e1
  rw [List.getElem?_map, List.getElem?_range hi] at e1
  cases e1
  exact .int _
theorem prg_1' {X : Cx} {a : Expr} {ta : TA} {p pos : Pos} (hg : Gl X "range") (hm : X.mg "range" = none) (ha : PA X [a] ta) (hs : starEach [a] X.env = [(false, eval a X.env)]) : PRg X (.Call (.Name "range" p) [a] [] pos) (fun σ H Q => ta σ H fun vs H1 => ∃ n, vs = [.int n] ∧ Q 0 n H1) := by
  intro pins s σ H Q I h
  refine Call_ (ld_blt I hg hm boot_range (PyProof.Rows.callWith_type1 (thn (ha.run pos pins s σ H _ I h) fun us s1 ⟨vs, H1, I1, r1, q1⟩ => ?_) hs rfl))
  obtain ⟨n, e, q⟩ := q1
  subst e
  cases r1 with
  | cons r rr =>
    cases rr
    obtain ⟨t, rfl⟩ := r
    exact call_range_1 ⟨_, 0, n, _, _, _, H1, rfl, IsRange.new _ _ _ _ _ _ _, I1.kept fun b u e => Heap.get?_push_of_some _ e, q⟩
theorem prg_2' {X : Cx} {a b : Expr} {ta : TA} {p pos : Pos} (hg : Gl X "range") (hm : X.mg "range" = none) (ha : PA X [a, b] ta) (hs : starEach [a, b] X.env = [(false, eval a X.env), (false, eval b X.env)]) (hs2 : starEach [b] X.env = [(false, eval b X.env)]) :
    PRg X (.Call (.Name "range" p) [a, b] [] pos) (fun σ H Q => ta σ H fun vs H1 => ∃ i j, vs = [.int i, .int j] ∧ Q i j H1) := by
  intro pins s σ H Q I h
  refine Call_ (ld_blt I hg hm boot_range (PyProof.Rows.callWith_type1 (thn (ha.run pos pins s σ H _ I h) fun us s1 ⟨vs, H1, I1, r1, q1⟩ => ?_) (by rw [hs, hs2]) (by rw [hs2]; rfl)))
  obtain ⟨i, j, e, q⟩ := q1
  subst e
  cases r1 with
  | cons r rr =>
    cases rr with
    | cons r' rr =>
      cases rr
      obtain ⟨t, rfl⟩ := r
      obtain ⟨t', rfl⟩ := r'
      exact call_range_2 ⟨_, i, j, _, _, _, H1, rfl, IsRange.new _ _ _ _ _ _ _, I1.kept fun b u e => Heap.get?_push_of_some _ e, q⟩
theorem s_listRg {X : Cx} {W : XK} {x : Expr} {es : List Expr} {r : VC.E} {id id2 : Str} {p p2 pos pos2 : Pos} (k : Ok X f t W) (hg0 : Gl X id2) (he0 : id2 = "list") (hg : Gl X id) (he : id = "range") (hr : elen r = es.length + 1) (hl : es.length ≤ 1) (hs : (x :: es).all notStar = true) (ha : PA X (x :: es) (tL f t W r)) :
    PE X (.Call (.Name id2 p2) [.Call (.Name id p) (x :: es) [] pos] [] pos2) (tE f t W (.listIt .range r)) := by
  subst he he0
  simp only [List.all_cons, Bool.and_eq_true] at hs
  have hm := k.blt "range" (by decide)
  have hm0 := k.blt "list" (by decide)
  have fin : ∀ {σ : L2.St} {H : Hp} {Q : VK}, tE f t W (.listIt .range r) σ H Q → tL f t W r σ H fun vs H1 => ∃ i j : Int, (vs = [.int i, .int j] ∨ (vs = [.int j] ∧ i = 0)) ∧ (vs.length = elen r) ∧ RgOk i j ∧ ∀ q, H1 q = none → Q (.ref q) (upd H1 q (.lst (rgV i j))) := fun {σ H Q} h => by
    unfold tE at h
    rw [rpE_eq rfl] at h
    obtain ⟨H0, ρ, st, rel, q⟩ := h
    refine ⟨H0, ρ, st, rel, Fin.step (k := fun l => .bind (.of (dItems .range l)) fun items => .ret (D.lst items)) q rel fun vs H1 ds st1 G0 g rel1 ra q1 => ?_⟩
    obtain ⟨items, e, q2⟩ := q1.some
    have hs := rpL_soft ra
    have done : ∀ {i j : Int}, items = upTo i (j - i).toNat → -1000000 ≤ i ∧ i ≤ 1000000 → -1000000 ≤ j ∧ j ≤ 1000000 → RgOk i j ∧ ∀ q, H1 q = none → Q (.ref q) (upd H1 q (.lst (rgV i j))) := fun {i j} e h1 h2 => by
      subst e
      refine ⟨⟨by omega, by omega, by omega, by omega, by omega⟩, fun np hn => ?_⟩
      refine q2 (.ref np) (upd G0 np (.lst (rgV i j))) _ (.new rel1.sub hn) (rel1.pen.new rel1.sub hn) (.newL (rel1.sub.free hn) ?_ (reps_rg i j))
      rw [rgV_length, sizeLine_eq]
      omega
    change dRange ds = some items at e
    unfold dRange at e
    split at e
    · split at e
      · rename_i hz
        cases e
        obtain ⟨v, rfl, h1⟩ := hs.one
        have e1 := soft_int h1; subst e1
        exact ⟨0, _, .inr ⟨rfl, rfl⟩, rpL_len ra, done (by simp) (by omega) hz⟩
      · cases e
    · split at e
      · rename_i hz
        cases e
        obtain ⟨v, u, rfl, h1, h2⟩ := hs.two
        have e1 := soft_int h1; subst e1
        have e1 := soft_int h2; subst e1
        exact ⟨_, _, .inl rfl, rpL_len ra, done rfl hz.1 hz.2⟩
      · cases e
    · cases e
  cases es with
  | nil =>
    refine PEimp (pe_listRg k.calm hg0 hm0 (prg_1' hg hm ha (star_cons hs.1)) rfl) fun σ H Q h => ?_
    obtain ⟨H0, ρ, st, rel, q⟩ := fin h
    refine ⟨H0, ρ, st, rel, q.imp fun vs H1 ⟨i, j, hv, hlen, ok, q1⟩ => ?_⟩
    rcases hv with rfl | ⟨rfl, rfl⟩
    · rw [hr] at hlen
      cases hlen
    · exact ⟨j, rfl, ok, q1⟩
  | cons y es =>
    cases es with
    | cons _ _ => simp at hl
    | nil =>
      simp only [List.all_cons, List.all_nil, Bool.and_true] at hs
      refine PEimp (pe_listRg k.calm hg0 hm0 (prg_2' hg hm ha (by rw [star_cons hs.1, star_cons hs.2]; rfl) (by rw [star_cons hs.2]; rfl)) rfl) fun σ H Q h => ?_
      obtain ⟨H0, ρ, st, rel, q⟩ := fin h
      refine ⟨H0, ρ, st, rel, q.imp fun vs H1 ⟨i, j, hv, hlen, ok, q1⟩ => ?_⟩
      rcases hv with rfl | ⟨rfl, rfl⟩
      · exact ⟨i, j, rfl, ok, q1⟩
      · rw [hr] at hlen
        cases hlen
theorem good (e : VC.E) : ∀ {t : Tab}, Good f t e := by
  induction e with
  | var i => exact .mk' rfl (fun o h => ⟨s_var o h, .inl (by unfold chk at h; split at h <;> first | rfl | cases h)⟩) (noS rfl) (noO rfl) (noC rfl)
  | bor i => exact .mk' rfl (fun o h => ⟨s_bor o h, .inl (by unfold chk at h; split at h <;> first | rfl | cases h)⟩) (noS rfl) (noO rfl) (noC rfl)
  | int i =>
    refine .mk' rfl (fun o h => ?_) (noS rfl) (noO rfl) (noC rfl)
    unfold chk at h
    split at h
    · simp only [beq_iff_eq] at h
      subst h
      exact ⟨const_ok rfl (fun _ => rfl) (fun _ => .int _) pe_int, .inl rfl⟩
    · cases h
  | bl b =>
    refine .mk' rfl (fun o h => ?_) (noS rfl) (noO rfl) (noC rfl)
    unfold chk at h
    split at h
    · simp only [beq_iff_eq] at h
      subst h
      exact ⟨const_ok rfl (fun _ => rfl) (fun _ => .bl _) pe_bl, .inl rfl⟩
    · cases h
  | non =>
    refine .mk' rfl (fun o h => ?_) (noS rfl) (noO rfl) (noC rfl)
    unfold chk at h
    split at h
    · exact ⟨const_ok rfl (fun _ => rfl) (fun _ => .non) pe_non, .inl rfl⟩
    · cases h
  | str s =>
    refine .mk' rfl (fun o h => ?_) (noS rfl) (noO rfl) (noC rfl)
    unfold chk at h
    split at h
    · simp only [beq_iff_eq] at h
      subst h
      exact ⟨const_ok rfl (fun _ => rfl) (fun _ => .str _) pe_str, .inl rfl⟩
    · cases h
  | nil =>
    refine ⟨fun o h => (by unfold chk at h; cases h), fun o h => (by unfold chk at h; cases h), fun o h => (by unfold chk at h; cases h), fun o h => ?_, fun h => ?_, fun o h => ?_, fun _ _ e => (nomatch e), fun o h => ?_, fun _ _ e => (nomatch e)⟩
    · unfold chks at h
      simp only [List.isEmpty_iff] at h
      subst h
      exact s_nil
    · unfold chks at h
      simp only [List.isEmpty_iff] at h
      subst h
      rfl
    · unfold chko at h
      simp only [Option.isNone_iff_eq_none] at h
      subst h
      exact o_nil
    · unfold chkc at h
      simp only [List.isEmpty_iff] at h
      subst h
      exact PTsimp pts_nil fun σ H Q ⟨H0, ρ, st, rel, q⟩ => Fin.now (a := true) q rel.sub rel.pen rfl
  | cons a r iha ihr =>
    refine ⟨fun o h => (by unfold chk at h; cases h), fun o h => (by unfold chk at h; cases h), fun o h => (by unfold chk at h; cases h), fun o h => ?_, fun h => ?_, fun o h => ?_, fun _ _ e => (by cases e; exact iha.pe), fun o h => ?_, fun k a z => (by
      cases k with
      | zero =>
        cases z
        exact iha.pe
      | succ k => exact ihr.nth k a z)⟩
    · unfold chks at h
      split at h
      · simp only [Bool.and_eq_true] at h
        exact s_cons (iha.pe o h.1.2) (ihr.pa o h.2) h.1.1
      · cases h
    · unfold chks at h
      split at h
      · simp only [Bool.and_eq_true] at h
        rw [List.length_cons, ← ihr.ln h.2]
        rfl
      · cases h
    · unfold chko at h
      split at h
      · exact o_cons (iha.pe o h)
      · cases h
    · unfold chkc at h
      split at h
      · exact PTsimp (pts_one (iha.pt o h)) fun σ H Q q => q
      · cases h
  | tup r ih =>
    refine .mk' rfl (fun o h => ?_) (noS rfl) (noO rfl) (noC rfl)
    unfold chk at h
    split at h
    · simp only [Bool.and_eq_true, decide_eq_true_eq] at h
      exact ⟨s_tup (ih.pa o h.2) h.1.1 (by rw [ih.ln h.2]; exact h.1.2), .inl rfl⟩
    · cases h
  | lst r ih =>
    refine .mk' rfl (fun o h => ?_) (noS rfl) (noO rfl) (noC rfl)
    unfold chk at h
    split at h
    · simp only [Bool.and_eq_true, decide_eq_true_eq] at h
      exact ⟨s_lst (ih.pa o h.2) h.1.1 (by rw [ih.ln h.2]; exact h.1.2), .inl rfl⟩
    · cases h
  | bin op a b iha ihb =>
    refine .mk' rfl (fun o h => ?_) (noS rfl) (noO rfl) (noC rfl)
    unfold chk at h
    split at h
    · simp only [Bool.and_eq_true, beq_iff_eq] at h
      obtain ⟨⟨rfl, h2⟩, h3⟩ := h
      exact ⟨s_bin o (iha.pe o h2) (ihb.pe o h3), .inl rfl⟩
    · cases h
  | neg a ih =>
    refine .mk' rfl (fun o h => ?_) (noS rfl) (noO rfl) (noC rfl)
    unfold chk at h
    split at h
    · exact ⟨s_neg (ih.pe o h), .inl rfl⟩
    · cases h
  | no a ih =>
    refine .mk' rfl (fun o h => ?_) (noS rfl) (noO rfl) (noC rfl)
    unfold chk at h
    split at h
    · exact ⟨s_no o.hK (ih.pe o h), .inr ⟨fun _ _ _ e => (nomatch e), t_no (ih.pt o h)⟩⟩
    · cases h
  | cmp op a b iha ihb =>
    refine .mk' rfl (fun o h => ?_) (noS rfl) (noO rfl) (noC rfl)
    unfold chk at h
    split at h
    · simp only [Bool.and_eq_true, beq_iff_eq, Bool.not_eq_true'] at h
      obtain ⟨⟨⟨rfl, h1⟩, h2⟩, h3⟩ := h
      exact ⟨s_cmp o h1 (iha.pe o h2) (ihb.pe o h3), .inr ⟨fun _ _ _ e => (nomatch e), t_cmp o h1 (iha.pe o h2) (ihb.pe o h3)⟩⟩
    · cases h
  | chain op op2 a b c iha ihb ihc =>
    refine .mk' rfl (fun o h => ?_) (noS rfl) (noO rfl) (noC rfl)
    unfold chk at h
    split at h
    · simp only [Bool.and_eq_true, Bool.not_eq_true'] at h
      obtain ⟨⟨⟨⟨⟨⟨e1, e2⟩, _⟩, h1⟩, h2⟩, h3⟩, h4⟩ := h
      have e1 := beq_iff_eq.mp e1
      have e2 := beq_iff_eq.mp e2
      subst e1 e2
      exact ⟨s_chain o h1 (iha.pe o h2) (ihb.pe o h3) (ihc.pe o h4), .inr ⟨fun _ _ _ e => (nomatch e), t_chain o h1 (iha.pe o h2) (ihb.pe o h3) (ihc.pe o h4)⟩⟩
    · cases h
  | and a b iha ihb =>
    intro t
    have main : ∀ {X : Cx} {W : XK} {x : Expr}, Ok X f t W → chk X.N f.c.used t (.and a b) X.env.scope x = true → PE X x (tE f t W (.and a b)) ∧ PW X x (tB f t W (.and a b)) := fun {X W x} o h => by
      unfold chk at h
      split at h
      · simp only [Bool.and_eq_true, Bool.not_eq_true'] at h
        obtain ⟨⟨⟨n1, n2⟩, h2⟩, h3⟩ := h
        exact ⟨s_and o.hK n1 n2 (iha.pe o h2) (pe_one (ihb.pe o h3)), w_and (iha.pt o h2) (pw_and1 (ihb.pt o h3))⟩
      · simp only [Bool.and_eq_true, Bool.not_eq_true'] at h
        obtain ⟨⟨⟨n1, n2⟩, h2⟩, h3⟩ := h
        exact ⟨s_and o.hK n1 n2 (iha.pe o h2) (ihb.pe o h3), w_and (iha.pt o h2) (ihb.pw o h3)⟩
      · cases h
    exact ⟨fun o h => (main o h).1, fun o h => (main o h).2.pt, fun o h => (main o h).2, fun o h => (by rw [noS rfl] at h; cases h), fun h => (by rw [noS rfl] at h; cases h), fun o h => (by rw [noO rfl] at h; cases h), fun _ _ e => (nomatch e), fun o h => (by rw [noC rfl] at h; cases h), fun _ _ e => (nomatch e)⟩
  | or a b iha ihb =>
    intro t
    have main : ∀ {X : Cx} {W : XK} {x : Expr}, Ok X f t W → chk X.N f.c.used t (.or a b) X.env.scope x = true → PE X x (tE f t W (.or a b)) ∧ PW X x (tB f t W (.or a b)) := fun {X W x} o h => by
      unfold chk at h
      split at h
      · simp only [Bool.and_eq_true, Bool.not_eq_true'] at h
        obtain ⟨⟨⟨n1, n2⟩, h2⟩, h3⟩ := h
        exact ⟨s_or o.hK n1 n2 (iha.pe o h2) (pe_one (ihb.pe o h3)), w_or (iha.pt o h2) (pw_or1 (ihb.pt o h3))⟩
      · simp only [Bool.and_eq_true, Bool.not_eq_true'] at h
        obtain ⟨⟨⟨n1, n2⟩, h2⟩, h3⟩ := h
        exact ⟨s_or o.hK n1 n2 (iha.pe o h2) (ihb.pe o h3), w_or (iha.pt o h2) (ihb.pw o h3)⟩
      · cases h
    exact ⟨fun o h => (main o h).1, fun o h => (main o h).2.pt, fun o h => (main o h).2, fun o h => (by rw [noS rfl] at h; cases h), fun h => (by rw [noS rfl] at h; cases h), fun o h => (by rw [noO rfl] at h; cases h), fun _ _ e => (nomatch e), fun o h => (by rw [noC rfl] at h; cases h), fun _ _ e => (nomatch e)⟩
  | ite c a b ihc iha ihb =>
    refine .mk' rfl (fun o h => ?_) (noS rfl) (noO rfl) (noC rfl)
    unfold chk at h
    split at h
    · simp only [Bool.and_eq_true, Bool.not_eq_true'] at h
      obtain ⟨⟨⟨⟨n1, n2⟩, h1⟩, h2⟩, h3⟩ := h
      exact ⟨s_ite n1 n2 (ihc.pt o h1) (iha.pe o h2) (ihb.pe o h3), .inr ⟨fun _ _ _ e => (nomatch e), t_ite (ihc.pt o h1) (iha.pt o h2) (ihb.pt o h3)⟩⟩
    · cases h
  | call n r ih =>
    refine .mk' rfl (fun o h => ?_) (noS rfl) (noO rfl) (noC rfl)
    unfold chk at h
    split at h
    · simp only [Bool.and_eq_true, Bool.not_eq_true', beq_iff_eq] at h
      obtain ⟨⟨⟨⟨⟨⟨h1, h2⟩, h3⟩, h4⟩, h5⟩, h6⟩, h7⟩ := h
      exact ⟨s_call o h1 (glB_ok h2) h3 h4 h5 h6 (ih.pa o h7), .inl rfl⟩
    · cases h
  | bi g r ih =>
    intro t
    refine .mk' rfl (fun o h => ?_) (noS rfl) (noO rfl) (noC rfl)
    unfold chk at h
    split at h
    · simp only [Bool.and_eq_true] at h
      obtain ⟨⟨h1, h2⟩, h3⟩ := h
      split at h3
      · simp only [Bool.and_eq_true, beq_iff_eq] at h3
        obtain ⟨rfl, h4⟩ := h3
        split at h4
        · rename_i a ty
          simp only [Bool.and_eq_true, List.all_cons, List.all_nil] at h4 h2
          exact ⟨s_isi o (glB_ok h1) h2.1 (by simpa using h2.2) (ih.hd a .nil rfl o h4.1) h4.2, .inl rfl⟩
        · cases h4
      · cases h3
      · simp only [Bool.and_eq_true, beq_iff_eq] at h3
        obtain ⟨⟨h4, rfl⟩, h5⟩ := h3
        exact ⟨s_gcd o (glB_ok h1) h4 h2 (ih.pa o h5), .inl rfl⟩
      · simp only [Bool.and_eq_true, beq_iff_eq] at h3
        exact ⟨s_bi o (glB_ok h1) h3.1 (by rename_i n1 n2 n3; cases g <;> first | rfl | exact absurd rfl n2 | exact absurd rfl n3 | exact absurd rfl (n1 _)) h2 (ih.pa o h3.2), .inl rfl⟩
    · split at h
      · rename_i a
        simp only [Bool.and_eq_true, beq_iff_eq] at h
        obtain ⟨⟨⟨rfl, h2⟩, h3⟩, h4⟩ := h
        exact ⟨s_bits o (by simpa using h2) h3 (ih.hd _ _ rfl o h4), .inl rfl⟩
      · cases h
    · cases h
  | ix a i iha ihi =>
    refine .mk' rfl (fun o h => ?_) (noS rfl) (noO rfl) (noC rfl)
    unfold chk at h
    split at h
    · simp only [Bool.and_eq_true] at h
      exact ⟨s_ix o h.1.1 (iha.pe o h.1.2) (ihi.pe o h.2), .inl rfl⟩
    · cases h
  | sl a lo hi iha ihl ihh =>
    refine .mk' rfl (fun o h => ?_) (noS rfl) (noO rfl) (noC rfl)
    unfold chk at h
    split at h
    · simp only [Bool.and_eq_true] at h
      exact ⟨s_sl o (iha.pe o h.1.1) (ihl.po o h.1.2) (ihh.po o h.2), .inl rfl⟩
    · cases h
  | fld a g iha =>
    refine .mk' rfl (fun o h => ?_) (noS rfl) (noO rfl) (noC rfl)
    unfold chk at h
    split at h
    · simp only [Bool.and_eq_true, Bool.not_eq_true', beq_iff_eq] at h
      exact ⟨s_fld o h.1.2 h.1.1.1 h.1.1.2 (iha.pe o h.2), .inl rfl⟩
    · cases h
  | comp e tg k r c ihe ihr ihc =>
    intro t
    refine .mk' rfl (fun {X W x} o h => ?_) (noS rfl) (noO rfl) (noC rfl)
    unfold chk at h
    split at h
    · rename_i elt tg' iter ifs scope pos
      simp only [Bool.and_eq_true, Bool.not_eq_true'] at h
      obtain ⟨⟨⟨⟨⟨h1, h2⟩, h3⟩, h4⟩, h5⟩, h6⟩ := h
      obtain ⟨ok, hown⟩ := elt_ok h1
      have pi : PI X tg' iter (iT f t W false k r) ∧ ∀ v, foldedSetIterable iter X.env v = pure v := by
        cases k with
        | seq =>
          simp only at h6
          split at h6
          · exact ⟨i_seq o.hK (ihr.hd _ _ rfl o h6) (fun e => nomatch e), fold_ok fun es k p e => by rw [e, chk_set] at h6; cases h6⟩
          · cases h6
        | range =>
          simp only at h6
          split at h6
          · simp only [Bool.and_eq_true, beq_iff_eq, decide_eq_true_eq] at h6
            obtain ⟨⟨⟨⟨q1, q2⟩, q3⟩, q4⟩, q5⟩ := h6
            exact ⟨i_range o (glB_ok q2) q3 (by rw [ihr.ln q5]; rfl) q1 q4 (ihr.pa o q5), fun _ => rfl⟩
          · cases h6
        | zip =>
          simp only at h6
          split at h6
          · simp only [Bool.and_eq_true, beq_iff_eq] at h6
            obtain ⟨⟨⟨⟨q1, rfl⟩, q3⟩, q4⟩, q5⟩ := h6
            exact ⟨i_zip o (glB_ok q1) q3 q4 (fun e => nomatch e) (ihr.pa o q5), fun _ => rfl⟩
          · cases h6
        | enum => cases h6
      refine ⟨PEimp (pe_lc (g := gT X.K tg) o.calm o.nd pi.1 ok (fun s H C cl fp => tg_ok (X := X.blk s H scope (compEnvC scope cl C X.env) fp) o.calm o.nd (tg_blk h2)) (fun s H C cl fp => ihc.pc (t := t.noL) (o.blk s H scope _ fp rfl rfl) h4) (fun s H C cl fp => ihe.pe (t := t.noL) (o.blk s H scope _ fp rfl rfl) h5) pi.2) fun σ H Q q => ?_, .inl rfl⟩
      rw [hown]
      have := lc_run (r := r) h3 rfl rfl rfl q
      rw [← o.hK] at this
      exact this
    · cases h
  | listIt k r ih =>
    refine .mk' rfl (fun o h => ?_) (noS rfl) (noO rfl) (noC rfl)
    unfold chk at h
    split at h
    · simp only [Bool.and_eq_true, beq_iff_eq, decide_eq_true_eq] at h
      obtain ⟨⟨⟨⟨⟨⟨⟨h1, h2⟩, h3⟩, h4⟩, h5⟩, h6⟩, h7⟩, h8⟩ := h
      subst h3
      exact ⟨s_listRg o (glB_ok h1) h2 (glB_ok h5) h6 (by rw [ih.ln h8]; rfl) h4 h7 (ih.pa o h8), .inl rfl⟩
    · cases h
  | «catch» e ih =>
    intro t
    refine .mk' rfl (fun {X W x} o h => ?_) (noS rfl) (noO rfl) (noC rfl)
    unfold chk at h
    split at h
    · rename_i id px params body scope plam pc
      simp only [Bool.and_eq_true, Bool.not_eq_true', beq_iff_eq] at h
      obtain ⟨⟨⟨⟨⟨⟨h1, h2⟩, h3⟩, h4⟩, h5⟩, h6⟩, h7⟩ := h
      obtain ⟨g, cdg, sg, bg, a, n, cs, cAd, P, k, pg, dV, kV, doc, pm, ct, oc, an, od, osl, c1, c2, c3, c4, c5, c6, c7, c8, c9, c10, c11, c12, c13⟩ := o.cat h1
      subst h3
      have hp : params = ⟨[], [], none, [], [], none, []⟩ := by
        unfold noPar at h6
        split at h6
        · rfl
        · cases h6
      subst hp
      refine ⟨s_catch (t := t) (glB_ok h2) h4 c1 c2 c3 c4 c5 c6 c7 c8 c9 c10 c11 c12 (LamX.lamS_by h5) rfl (fun _ _ _ _ _ => rfl) (fun A outer s H E l c' hA hr => ?_), .inl rfl⟩
      have tk : Takes (LamX.lamCx X A outer s H E scope l c') (fun cls d _ H => E cls d H) := takes_of rfl rfl rfl rfl
      have ok : Ok (LamX.lamCx X A outer s H E scope l c') f t.cold E := Base.ok (t := t.cold) c13.cold rfl rfl o.hK rfl rfl rfl o.nd (hA.trans o.grd) hr (.inl rfl) (passes_call tk fun _ _ _ _ h => h) (fun z => nomatch z)
      exact ih.pe (t := t.cold) ok h7
    · cases h
  | compG g tg k r as bs ihr iha ihb =>
    intro t
    refine .mk' rfl (fun {X W x} o h => ?_) (noS rfl) (noO rfl) (noC rfl)
    unfold chk at h
    split at h
    · rename_i id pn y ys pc tg' iter scope pos
      simp only [Bool.and_eq_true, Bool.not_eq_true', beq_iff_eq, decide_eq_true_eq] at h
      obtain ⟨⟨⟨⟨⟨⟨⟨⟨⟨⟨⟨⟨h1, h2⟩, h3⟩, h4⟩, h5⟩, h6⟩, h7⟩, h8⟩, h9⟩, h10⟩, h11⟩, h12⟩, h13⟩ := h
      have ol := o.lam h1
      obtain ⟨ok, hown⟩ := elt_ok h5
      subst h4
      split at h13
      · exact ⟨s_compG (ol.gat g h2) o.hK o.calm o.nd (i_seq o.hK (ihr.hd _ _ rfl o h13) (fun e => nomatch e)) (fold_ok fun es k p e => by rw [e, chk_set] at h13; cases h13) ok hown (fun s H C cl fp => tg_ok (X := X.blk s H scope (compEnvC scope cl C X.env) fp) o.calm o.nd (tg_blk h6)) (fun s H C cl fp => glB_ok h7) h8 h9 h10 h11 (fun s H C cl fp => iha.pa (t := t.noL) (o.blk s H scope _ fp rfl rfl) h12) h3, .inl rfl⟩
      · cases h13
    · cases h
  | dic0 =>
    refine .mk' rfl (fun o h => ?_) (noS rfl) (noO rfl) (noC rfl)
    unfold chk at h
    split at h
    · exact ⟨s_dic0, .inl rfl⟩
    · cases h
  | dic1 k a ih =>
    refine .mk' rfl (fun o h => ?_) (noS rfl) (noO rfl) (noC rfl)
    unfold chk at h
    split at h
    · simp only [Bool.and_eq_true, Bool.not_eq_true'] at h
      exact ⟨s_dic1 h.1.1 h.1.2 (ih.pe o h.2), .inl rfl⟩
    · cases h
  | callB n r ih =>
    intro t
    refine .mk' rfl (fun {X W x} o h => ?_) (noS rfl) (noO rfl) (noC rfl)
    unfold chk at h
    split at h
    · simp only [Bool.and_eq_true, Bool.not_eq_true', beq_iff_eq] at h
      obtain ⟨⟨⟨⟨⟨h1, h2⟩, h3⟩, h4⟩, h5⟩, h6⟩ := h
      exact ⟨s_callB o h1 (glB_ok h2) h3 h4 h5 (ih.pa o h6), .inl rfl⟩
    · cases h
  | mkI n r ih =>
    intro t
    refine .mk' rfl (fun {X W x} o h => ?_) (noS rfl) (noO rfl) (noC rfl)
    unfold chk at h
    split at h
    · simp only [Bool.and_eq_true, Bool.not_eq_true', beq_iff_eq, decide_eq_true_eq] at h
      obtain ⟨⟨⟨⟨⟨⟨h1, h2⟩, h3⟩, h4⟩, h5⟩, h6⟩, h7⟩ := h
      exact ⟨s_mkI o h1 (glB_ok h2) h3 h4 h5 (ih.pa o h7), .inl rfl⟩
    · cases h
  | eqO neg n a b iha ihb =>
    intro t
    refine .mk' rfl (fun {X W x} o h => ?_) (noS rfl) (noO rfl) (noC rfl)
    unfold chk at h
    split at h
    · simp only [Bool.and_eq_true, beq_iff_eq, Bool.not_eq_true'] at h
      obtain ⟨⟨⟨⟨⟨⟨rfl, h1⟩, h2⟩, h3⟩, h4⟩, h5⟩, h6⟩ := h
      exact ⟨s_eqO o h1 h2 h3 h4 (iha.pe o h5) (ihb.pe o h6), .inr ⟨fun _ _ _ e => (nomatch e), t_eqO o h1 h2 h3 h4 (iha.pe o h5) (ihb.pe o h6)⟩⟩
    · cases h
  | mk c kn ks r ih =>
    intro t
    refine .mk' rfl (fun {X W x} o h => ?_) (noS rfl) (noO rfl) (noC rfl)
    unfold chk at h
    split at h
    · simp only [Bool.and_eq_true, Bool.not_eq_true', beq_iff_eq] at h
      obtain ⟨⟨⟨⟨⟨h1, h2⟩, h3⟩, h4⟩, h5⟩, h6⟩ := h
      refine ⟨s_mk o h1 (glB_ok h2) h3 h4 h5 ?_, .inl rfl⟩
      by_cases hk : kn.isEmpty = true
      · rw [if_pos hk] at h6
        simp only [Bool.and_eq_true, beq_iff_eq, decide_eq_true_eq, List.isEmpty_iff] at h6
        obtain ⟨⟨⟨⟨g1, g2⟩, g3⟩, g4⟩, g5⟩ := h6
        exact .inl ⟨List.isEmpty_iff.mp hk, g1, g2, g3, g4, ih.ln g5, ih.pa o g5⟩
      · rw [if_neg hk] at h6
        simp only [Bool.and_eq_true, decide_eq_true_eq, List.isEmpty_iff] at h6
        obtain ⟨⟨⟨g1, g2⟩, g3⟩, g4⟩ := h6
        exact .inr ⟨fun z => hk (List.isEmpty_iff.mpr z), g1, g2, g3, pk_of (fun k a e {x} hx => ih.nth k a e o hx) g4, by rw [ih.ln g4, List.length_map]⟩
    · cases h
  | lam k =>
    intro t
    refine .mk' rfl (fun {X W x} o h => ?_) (noS rfl) (noO rfl) (noC rfl)
    unfold chk at h
    split at h
    · rename_i params body scope pl
      simp only [Bool.and_eq_true] at h
      obtain ⟨h1, h2⟩ := h
      have ol := o.lam h1
      obtain ⟨e, he, hL, hp, hck⟩ := ol.std _ _ _ _ h2
      obtain ⟨g, cdg, sg, bg, a, n, cs, cAd, P, k', pg, dV, kV, doc, pm, ct, oc, an, od, osl, c1, c2, c3, c4, c5, c6, c7, c8, c9, c10, c11, c12, c13⟩ := o.cat (ol.cat)
      have hp : params = ⟨[], [], none, [], [], none, []⟩ := by
        unfold noPar at hp
        split at hp
        · rfl
        · cases hp
      subst hp
      exact ⟨s_lam c8 c9 c10 c11 ol h2 (LamX.lamS_by hL) rfl, .inl rfl⟩
    · cases h
  | catchV a bs iha ihb =>
    intro t
    refine .mk' rfl (fun {X W x} o h => ?_) (noS rfl) (noO rfl) (noC rfl)
    unfold chk at h
    split at h
    · rename_i id px y pc
      simp only [Bool.and_eq_true, Bool.not_eq_true', beq_iff_eq, decide_eq_true_eq] at h
      obtain ⟨⟨⟨⟨⟨⟨⟨⟨h1, h2⟩, h3⟩, h4⟩, h5⟩, h6⟩, h7⟩, h8⟩, h9⟩ := h
      have ol := o.lam h1
      obtain ⟨g, cdg, sg, bg, a', n, cs, cAd, P, k', pg, dV, kV, doc, pm, ct, oc, an, od, osl, c1, c2, c3, c4, c5, c6, c7, c8, c9, c10, c11, c12, c13⟩ := o.cat h2
      subst h4
      refine ⟨s_catchV (t := t) (glB_ok h3) h5 c1 c2 c3 c4 c5 c6 c7 c12 ol h8 h7 (iha.pe o h9) h6 (fun e body scope kk he hck A outer s H E l c' L hA hr => ?_), .inl rfl⟩
      have tk : Takes (LamX.lamCx X A outer s H E scope l c') (fun cls d _ H => E cls d H) := takes_of rfl rfl rfl rfl
      have ok : Ok (LamX.lamCx X A outer s H E scope l c') f t.cold E := Base.ok (t := t.cold) c13.cold rfl rfl o.hK rfl rfl rfl o.nd (hA.trans o.grd) hr (.inl rfl) (passes_call tk fun _ _ _ _ h => h) (fun z => nomatch z)
      exact ihb.nth (t := t.cold) kk e he ok hck
    · cases h
end
end VC
set_option Elab.async false
set_option linter.all false
set_option maxRecDepth 100000
set_option maxHeartbeats 1000000
/-! VCn: what is wanted of a statement; small statements. -/
namespace VC
open PySem PySem.Spec PyProof.Rows L2
structure SRel (f : Cf) (E0 E H0 H : Hp) (σ : L2.St) (ρ : Env) (st : PenSt) : Prop where
  rel : Rel f.c H0 H σ ρ st
  esub : Same E0 E
  gr : Grow f.c E0 E H0 H
  new : ∀ (i : Nat) l p, ρ[i]? = some (.own l) → σ[i]? = some (some (.ref p)) → NoObj E p
  newI : ∀ (i n : Nat) fs p, ρ[i]? = some (.ins n fs) → σ[i]? = some (some (.ref p)) → ∃ ps, E p = some (.tbl ps)
def FinS (f : Cf) (W : XK) (E0 E H0 : Hp) (D : Ends) (r : Res VC.Flow) : Prop := match r with
  | .ok (.nx ρ) st => ∀ σ H0' H', SRel f E0 E H0' H' σ ρ st → Same H0 H0' → D.nx σ H'
  | .ok (.bk ρ) st => ∀ σ H0' H', SRel f E0 E H0' H' σ ρ st → Same H0 H0' → D.bk σ H'
  | .ok (.ct ρ) st => ∀ σ H0' H', SRel f E0 E H0' H' σ ρ st → Same H0 H0' → D.ct σ H'
  | .ok (.rt d) st => ∀ v H0' H', Grow f.c E0 E H0' H' → PenAt f.c H0' H' st → Rep f.c H0' v d → D.rt v H'
  | .err e st => ∀ cls dd H0' H', Grow f.c E0 E H0' H' → PenAt f.c H0' H' st → ErrAt f.c H0' H' f.ec e cls dd → W cls dd H'
  | .bad => False
section
variable {f : Cf} {t : Tab} {W : XK} {E0 E H0 H G0 G : Hp} {σ : L2.St} {ρ ρ' : Env} {st st' : PenSt} {D D' : Ends}
theorem FinS.mono {r : Res VC.Flow} (h : FinS f W E0 E H0 D r) (s : Same H0 G0) : FinS f W E0 E G0 D r := by
  cases r with
  | ok fl st =>
    cases fl with
    | nx ρ => exact fun σ H0' H' r q => h σ H0' H' r (s.trans q)
    | bk ρ => exact fun σ H0' H' r q => h σ H0' H' r (s.trans q)
    | ct ρ => exact fun σ H0' H' r q => h σ H0' H' r (s.trans q)
    | rt d => exact h
  | err e st => exact h
  | bad => exact h
theorem SRel.grow (h : SRel f E0 E H0 H σ ρ st) (g : Grow f.c H0 H G0 G) (p : PenAt f.c G0 G st') : SRel f E0 E G0 G σ ρ st' := ⟨h.rel.grow g p, h.esub, h.gr.trans g, h.new, h.newI⟩
/-- an expression, then what follows in a statement -/
theorem FinS.step {V' U : Type} {rp : RP V' U} {m : M U} {k : U → M VC.Flow} {R : V' → Hp → Prop} (q : FinS f W E0 E H0 D (M.bind m k st)) (rel : SRel f E0 E H0 H σ ρ st)
    (h : ∀ w H1 a st1 G0, Grow f.c H0 H G0 H1 → SRel f E0 E G0 H1 σ ρ st1 → rp w a G0 H1 → FinS f W E0 E G0 D (k a st1) → R w H1) : Fin f W rp H0 H (m st) R := by
  unfold M.bind at q
  cases e : m st with
  | ok a s1 =>
    rw [e] at q
    exact fun w G0 G g p r => h w G a s1 G0 g (rel.grow g p) r (q.mono g.fast)
  | err x s1 =>
    rw [e] at q
    exact fun cls dd G0 G g p r => q cls dd G0 G (rel.gr.trans g) p r
  | bad =>
    rw [e] at q
    exact q
theorem FinS.some {α : Type} {o : Option α} {k : α → M VC.Flow} (q : FinS f W E0 E H0 D (M.bind (M.of o) k st)) : ∃ a, o = Option.some a ∧ FinS f W E0 E H0 D (k a st) := by
  cases o with
  | none => exact q.elim
  | some a => exact ⟨a, rfl, q⟩
/-- a part, the flow behind it -/
theorem FinS.part {m : M VC.Flow} {k : VC.Flow → M VC.Flow} (q : FinS f W E0 E H0 D (M.bind m k st))
    (hn : ∀ ρ' st', FinS f W E0 E H0 D (k (.nx ρ') st') → ∀ σ H0' H', SRel f E0 E H0' H' σ ρ' st' → Same H0 H0' → D'.nx σ H')
    (hb : ∀ ρ' st', FinS f W E0 E H0 D (k (.bk ρ') st') → ∀ σ H0' H', SRel f E0 E H0' H' σ ρ' st' → Same H0 H0' → D'.bk σ H')
    (hc : ∀ ρ' st', FinS f W E0 E H0 D (k (.ct ρ') st') → ∀ σ H0' H', SRel f E0 E H0' H' σ ρ' st' → Same H0 H0' → D'.ct σ H')
    (hr : ∀ d st', FinS f W E0 E H0 D (k (.rt d) st') → ∀ v H0' H', Grow f.c E0 E H0' H' → PenAt f.c H0' H' st' → Rep f.c H0' v d → D'.rt v H') : FinS f W E0 E H0 D' (m st) := by
  unfold M.bind at q
  cases e : m st with
  | ok fl s1 =>
    rw [e] at q
    cases fl with
    | nx ρ => exact hn ρ s1 q
    | bk ρ => exact hb ρ s1 q
    | ct ρ => exact hc ρ s1 q
    | rt d => exact hr d s1 q
  | err x s1 =>
    rw [e] at q
    exact q
  | bad =>
    rw [e] at q
    exact q
abbrev tS (f : Cf) (t : Tab) (W : XK) (s : S) : TS := fun D σ H => ∃ E0 E H0 ρ st, SRel f E0 E H0 H σ ρ st ∧ FinS f W E0 E H0 D (exS t.Phi f.c.F s ρ st)
/-! ### slots and lists of one's own -/
theorem SRel.setVal (h : SRel f E0 E H0 H σ ρ st) (i : Nat) {v : V} {d : VC.D} (r : Rep f.c H0 v d) : SRel f E0 E H0 H (σ.set i (some v)) (ρ.set i (.val d)) st :=
  ⟨⟨h.rel.sub, h.rel.pen, h.rel.env.setVal i r⟩, h.esub, h.gr, fun j l p e1 e2 => by
    rcases getset e1 with ⟨_, e⟩ | ⟨n, e1⟩
    · cases e
    · rcases getset e2 with ⟨e, _⟩ | ⟨_, e2⟩
      · exact absurd e n
      · exact h.new j l p e1 e2, fun j n' fs p e1 e2 => by
    rcases getset e1 with ⟨_, e⟩ | ⟨n, e1⟩
    · cases e
    · rcases getset e2 with ⟨e, _⟩ | ⟨_, e2⟩
      · exact absurd e n
      · exact h.newI j n' fs p e1 e2⟩
theorem SRel.setNo (h : SRel f E0 E H0 H σ ρ st) (i : Nat) : SRel f E0 E H0 H σ (ρ.set i .no) st := by
  have hset : σ.set i (σ[i]?.getD none) = σ := by
    refine List.ext_getElem? fun j => ?_
    by_cases e : j = i
    · subst e
      by_cases hl : j < σ.length
      · rw [List.getElem?_set_self hl, List.getElem?_eq_getElem hl]
        rfl
      · rw [List.getElem?_eq_none (by simpa using hl), List.getElem?_eq_none (by omega)]
    · rw [List.getElem?_set_ne (Ne.symm e)]
  refine ⟨⟨h.rel.sub, h.rel.pen, ?_⟩, h.esub, h.gr, fun j l p e1 e2 => ?_, fun j n' fs p e1 e2 => ?_⟩
  · have := h.rel.env.setNo i (s := σ[i]?.getD none)
    rwa [hset] at this
  · rcases getset e1 with ⟨_, e⟩ | ⟨n, e1⟩
    · cases e
    · exact h.new j l p e1 e2
  · rcases getset e1 with ⟨_, e⟩ | ⟨n, e1⟩
    · cases e
    · exact h.newI j n' fs p e1 e2
/-- a fresh list of one's own is stored -/
theorem SRel.setOwn (h : SRel f E0 E H0 H σ ρ st) (i : Nat) {p : Addr} {l : List VC.D} (o : OwnR f.c H0 H (.ref p) (.lst l)) (ne : NoObj E p) (na : ∀ (j : Nat) m, j ≠ i → ρ[j]? = some (.own m) → σ[j]? ≠ some (some (.ref p))) :
    SRel f E0 E H0 H (σ.set i (some (.ref p))) (ρ.set i (.own l)) st := by
  refine ⟨⟨h.rel.sub, h.rel.pen, ⟨by rw [List.length_set, List.length_set]; exact h.rel.env.len, fun j s q e1 e2 => ?_, fun j k l' m w hne e1 e2 e3 => ?_⟩⟩, h.esub, h.gr, fun j l' q e1 e2 => ?_, fun j n' fs q e1 e2 => ?_⟩
  · rcases getset e1 with ⟨rfl, rfl⟩ | ⟨n, e1⟩
    · rcases getset e2 with ⟨_, rfl⟩ | ⟨n, _⟩
      · exact ⟨_, rfl, o⟩
      · exact absurd rfl n
    · rcases getset e2 with ⟨e, _⟩ | ⟨_, e2⟩
      · exact absurd e n
      · exact h.rel.env.slot j s q e1 e2
  · rcases getset e1 with ⟨rfl, e⟩ | ⟨n1, e1⟩
    · rcases getset e3 with ⟨_, e3⟩ | ⟨n, _⟩
      · cases e3
        rcases getset e2 with ⟨e, _⟩ | ⟨n2, e2⟩
        · exact absurd e.symm hne
        · rw [List.getElem?_set_ne (Ne.symm n2)]
          exact na k m n2 e2
      · exact absurd rfl n
    · rcases getset e3 with ⟨e, _⟩ | ⟨_, f3⟩
      · exact absurd e n1
      · rcases getset e2 with ⟨e9, _⟩ | ⟨n2, e2⟩
        · intro e4
          rcases getset e4 with ⟨_, e5⟩ | ⟨n, _⟩
          · cases e5
            exact na j l' n1 e1 f3
          · exact absurd e9 n
        · rw [List.getElem?_set_ne (Ne.symm n2)]
          exact h.rel.env.apart j k l' m w hne e1 e2 f3
  · rcases getset e1 with ⟨rfl, _⟩ | ⟨n, e1⟩
    · rcases getset e2 with ⟨_, e⟩ | ⟨n, _⟩
      · cases e
        exact ne
      · exact absurd rfl n
    · rcases getset e2 with ⟨e, _⟩ | ⟨_, e2⟩
      · exact absurd e n
      · exact h.new j l' q e1 e2
  · rcases getset e1 with ⟨_, e⟩ | ⟨n, e1⟩
    · cases e
    · rcases getset e2 with ⟨e, _⟩ | ⟨_, e2⟩
      · exact absurd e n
      · exact h.newI j n' fs q e1 e2
/-- a list of one's own at a slot -/
theorem SRel.own (h : SRel f E0 E H0 H σ ρ st) {i : Nat} {l : List VC.D} (e : ρ[i]? = some (.own l)) : ∃ p vs, σ[i]? = some (some (.ref p)) ∧ H p = some (.lst vs) ∧ H0 p = none ∧ p ≠ f.c.pa ∧ vs.length ≤ sizeLine ∧ Reps f.c H0 vs l ∧ NoObj E p := by
  have hl : i < σ.length := by
    rw [h.rel.env.len]
    exact (List.getElem?_eq_some_iff.mp e).1
  obtain ⟨v, e1, p, vs, ds, e2, e3, h1, h2, h3, z, r⟩ := h.rel.env.slot i _ _ (List.getElem?_eq_getElem hl) e
  cases e3
  subst e2
  have e4 : σ[i]? = some (some (.ref p)) := (List.getElem?_eq_getElem hl).trans (congrArg _ e1)
  exact ⟨p, vs, e4, h1, h2, h3, z, r, h.new i l p e e4⟩
/-- it is changed -/
theorem SRel.change (h : SRel f E0 E H0 H σ ρ st) {i : Nat} {l l' : List VC.D} {p : Addr} {vs : List V} (e : ρ[i]? = some (.own l)) (e1 : σ[i]? = some (some (.ref p))) (z : vs.length ≤ sizeLine) (r : Reps f.c H0 vs l') :
    SRel f E0 E H0 (upd H p (.lst vs)) σ (ρ.set i (.own l')) st ∧ Grow f.c E0 E H0 (upd H p (.lst vs)) := by
  obtain ⟨q, ws, e2, h1, h2, h3, _, _, h4⟩ := h.own e
  rw [e1] at e2
  cases e2
  have g : Grow f.c E0 E H0 (upd H p (.lst vs)) := by
    refine ⟨h.gr.fast, fun a u ha => ?_, fun a u n nt ha hn => ?_, fun a u nt ha => ?_⟩
    · rw [upd_ne (ne_of_none ha h2)]
      exact h.gr.sub _ _ ha
    · rw [upd_ne (ne_of_obj ha nt h4)]
      exact h.gr.old a u n nt ha hn
    · rw [upd_ne (ne_of_obj ha nt h4)]
      exact h.gr.dom a u nt ha
  refine ⟨⟨⟨g.sub, h.rel.pen.change h1 h2, ⟨by rw [List.length_set]; exact h.rel.env.len, fun j s x a1 a2 => ?_, fun j k m n w hne a1 a2 a3 => ?_⟩⟩, h.esub, g, fun j m x a1 a2 => ?_, fun j n' fs x a1 a2 => ?_⟩, g⟩
  · rcases getset a2 with ⟨rfl, rfl⟩ | ⟨n, a2⟩
    · rw [e1] at a1
      cases a1
      exact ⟨_, rfl, p, vs, l', rfl, rfl, upd_same, h2, h3, z, r⟩
    · have so := h.rel.env.slot j s x a1 a2
      cases x with
      | no => trivial
      | val d => exact so
      | own m =>
        obtain ⟨v, b1, q, ws', ds', b2, b3, b4, b5, b6, b7, b8⟩ := so
        subst b1 b2
        have hq : q ≠ p := fun z => by
          subst z
          exact h.rel.env.apart i j l m _ (Ne.symm n) e a2 e1 a1
        exact ⟨_, rfl, q, ws', ds', rfl, b3, by rw [upd_ne hq]; exact b4, b5, b6, b7, b8⟩
      | ins n' fs =>
        obtain ⟨v, b1, q, dx, gs, us, b2, b3, b4, b5, b6⟩ := so
        have hq : q ≠ p := fun z => by
          subst z
          rw [h1] at b3
          cases b3
        exact ⟨v, b1, q, dx, gs, us, b2, by rw [upd_ne hq]; exact b3, b4, b5, b6⟩
  · have own' : ∀ {j : Nat} {m : List VC.D}, (ρ.set i (.own l'))[j]? = some (.own m) → ∃ m', ρ[j]? = some (.own m') := fun {j m} a => by
      rcases getset a with ⟨rfl, _⟩ | ⟨_, a⟩
      · exact ⟨l, e⟩
      · exact ⟨m, a⟩
    obtain ⟨m', b1⟩ := own' a1
    obtain ⟨n', b2⟩ := own' a2
    exact h.rel.env.apart j k m' n' w hne b1 b2 a3
  · rcases getset a1 with ⟨rfl, _⟩ | ⟨_, a1⟩
    · exact h.new j l x e a2
    · exact h.new j m x a1 a2
  · rcases getset a1 with ⟨_, b⟩ | ⟨_, a1⟩
    · cases b
    · exact h.newI j n' fs x a1 a2
/-- from now on it stands fast -/
theorem SRel.freeze (h : SRel f E0 E H0 H σ ρ st) {i : Nat} {l : List VC.D} (e : ρ[i]? = some (.own l)) : ∃ G0, SRel f E0 E G0 H σ (ρ.set i (.val (.lst l))) st ∧ Same H0 G0 := by
  obtain ⟨p, vs, e1, h1, h2, h3, z, r, h4⟩ := h.own e
  have fast : Same H0 (upd H0 p (.lst vs)) := fun a u ha => by
    rw [upd_ne (ne_of_none ha h2)]
    exact ha
  have sub : Same (upd H0 p (.lst vs)) H := fun a u ha => by
    by_cases ea : a = p
    · subst ea
      rw [upd_same] at ha
      cases ha
      exact h1
    · rw [upd_ne ea] at ha
      exact h.rel.sub _ _ ha
  refine ⟨upd H0 p (.lst vs), ⟨⟨sub, h.rel.pen.fix h1 h2, ⟨by rw [List.length_set]; exact h.rel.env.len, fun j s x a1 a2 => ?_, fun j k m n w hne a1 a2 a3 => ?_⟩⟩, h.esub, ⟨h.gr.fast.trans fast, sub, fun a u n nt ha hn => ?_, h.gr.dom⟩, fun j m x a1 a2 => ?_, fun j n' fs x a1 a2 => ?_⟩, fast⟩
  · rcases getset a2 with ⟨rfl, rfl⟩ | ⟨n, a2⟩
    · rw [e1] at a1
      cases a1
      exact ⟨_, rfl, .newL h2 z r⟩
    · have so := h.rel.env.slot j s x a1 a2
      cases x with
      | no => trivial
      | val d =>
        obtain ⟨v, b1, b2⟩ := so
        exact ⟨v, b1, b2.mono fast⟩
      | own m =>
        obtain ⟨v, b1, q, ws', ds', b2, b3, b4, b5, b6, b7, b8⟩ := so
        subst b1 b2
        have hq : q ≠ p := fun z => by
          subst z
          exact h.rel.env.apart i j l m _ (Ne.symm n) e a2 e1 a1
        exact ⟨_, rfl, q, ws', ds', rfl, b3, b4, by rw [upd_ne hq]; exact b5, b6, b7, b8.mono fast⟩
      | ins n' fs =>
        obtain ⟨v, b1, q, dx, gs, us, b2, b3, b4, b5, b6, b7, b8, b9⟩ := so
        have hq : q ≠ p := fun z => by
          subst z
          rw [h1] at b3
          cases b3
        exact ⟨v, b1, q, dx, gs, us, b2, b3, by rw [upd_ne hq]; exact b4, b5, b6, b7, b8.mono fast, b9⟩
  · rcases getset a1 with ⟨_, b⟩ | ⟨_, a1⟩
    · cases b
    · rcases getset a2 with ⟨_, b⟩ | ⟨_, a2⟩
      · cases b
      · exact h.rel.env.apart j k m n w hne a1 a2 a3
  · rw [upd_ne (ne_of_obj ha nt h4)]
    exact h.gr.old a u n nt ha hn
  · rcases getset a1 with ⟨_, b⟩ | ⟨_, a1⟩
    · cases b
    · exact h.new j m x a1 a2
  · rcases getset a1 with ⟨_, b⟩ | ⟨_, a1⟩
    · cases b
    · exact h.newI j n' fs x a1 a2
/-- an instance that is being made, at a slot -/
theorem SRel.insAt (h : SRel f E0 E H0 H σ ρ st) {i n : Nat} {fs : List (String × VC.D)} (e : ρ[i]? = some (.ins n fs)) : ∃ p dx gs vs, σ[i]? = some (some (.ref p)) ∧ H p = some (.ins (f.c.cl n) dx gs) ∧ H0 p = none ∧ p ≠ f.c.pa ∧ gs.length ≤ fs.length ∧ FldsAre (fs.map (·.1)) gs vs ∧ Reps f.c H0 vs (fs.map (·.2)) ∧ (∃ ps, E p = some (.tbl ps)) ∧ f.c.used n = true ∧ f.c.xs = false := by
  have hl : i < σ.length := by
    rw [h.rel.env.len]
    exact (List.getElem?_eq_some_iff.mp e).1
  obtain ⟨v, e1, p, dx, gs, vs, e2, h1, h2, h3, h4, h5, r, u⟩ := h.rel.env.slot i _ _ (List.getElem?_eq_getElem hl) e
  subst e2
  have e4 : σ[i]? = some (some (.ref p)) := (List.getElem?_eq_getElem hl).trans (congrArg _ e1)
  exact ⟨p, dx, gs, vs, e4, h1, h2, h3, h4, h5, r, h.newI i n fs p e e4, u⟩
theorem flds_put {names : List String} {gs : List (Str × V)} {vs : List V} {g : String} {v : V} (h : FldsAre names gs vs) (hn : (names.map Str.ofString).contains (Str.ofString g) = false) : FldsAre (names ++ [g]) (putF (Str.ofString g) v gs) (vs ++ [v]) := by
  refine ⟨by rw [List.length_append, List.length_append, h.1]; rfl, fun j m u e1 e2 => ?_⟩
  rw [lookup_putF]
  by_cases hj : j < names.length
  · rw [List.getElem?_append_left hj] at e1
    rw [List.getElem?_append_left (by rw [← h.1]; exact hj)] at e2
    have ne : Str.ofString m ≠ Str.ofString g := fun z => by
      have : (names.map Str.ofString).contains (Str.ofString g) = true := List.contains_iff_mem.mpr (by rw [← z]; exact List.mem_map.mpr ⟨m, List.mem_of_getElem? e1, rfl⟩)
      rw [hn] at this
      cases this
    rw [if_neg ne]
    exact h.2 j m u e1 e2
  · rw [List.getElem?_append_right (by omega)] at e1
    rw [List.getElem?_append_right (by rw [← h.1]; omega), ← h.1] at e2
    cases hk : j - names.length with
    | zero =>
      rw [hk] at e1 e2
      cases e1
      cases e2
      rw [if_pos rfl]
    | succ k =>
      rw [hk] at e1
      cases e1
theorem putF_len {g : Str} {v : V} : ∀ {gs : List (Str × V)}, (putF g v gs).length ≤ gs.length + 1
  | [] => Nat.le_refl _
  | (a, b) :: r => by
    unfold putF
    split
    · simp
    · simp only [List.length_cons]
      have := putF_len (g := g) (v := v) (gs := r)
      omega
/-- one more field -/
theorem SRel.setF (h : SRel f E0 E H0 H σ ρ st) {i n : Nat} {fs : List (String × VC.D)} {p dx : Addr} {gs : List (Str × V)} {g : String} {v : V} {d : VC.D} (e : ρ[i]? = some (.ins n fs)) (e1 : σ[i]? = some (some (.ref p))) (hp : H p = some (.ins (f.c.cl n) dx gs)) (hg : (fs.map fun q => Str.ofString q.1).contains (Str.ofString g) = false) (hi : i = 0) (ho : ρ.tail.all SD.notIns = true) (r : Rep f.c H0 v d) :
    SRel f E0 E H0 (upd H p (.ins (f.c.cl n) dx (putF (Str.ofString g) v gs))) σ (ρ.set i (.ins n (fs ++ [(g, d)]))) st := by
  obtain ⟨p', dx', gs', vs, e2, h1, h2, h3, h4, h5, rr, h6', hu⟩ := h.insAt e
  have h6 : NoObj E p' := fun o z => by
    obtain ⟨ps, h7⟩ := h6'
    rw [h7] at z
    exact ⟨ps, (Option.some.inj z).symm⟩
  rw [e1] at e2
  cases e2
  rw [hp] at h1
  cases h1
  have gr : Grow f.c E0 E H0 (upd H p (.ins (f.c.cl n) dx (putF (Str.ofString g) v gs))) := by
    refine ⟨h.gr.fast, fun a u ha => ?_, fun a u n nt ha hn => ?_, fun a u nt ha => ?_⟩
    · rw [upd_ne (ne_of_none ha h2)]
      exact h.gr.sub _ _ ha
    · rw [upd_ne (ne_of_obj ha nt h6)]
      exact h.gr.old a u n nt ha hn
    · rw [upd_ne (ne_of_obj ha nt h6)]
      exact h.gr.dom a u nt ha
  have pen : PenAt f.c H0 (upd H p (.ins (f.c.cl n) dx (putF (Str.ofString g) v gs))) st := by
    obtain ⟨⟨q0, q1, q2⟩, qt, qn⟩ := h.rel.pen
    refine ⟨⟨q0, by rw [upd_ne (Ne.symm h3)]; exact q1, q2⟩, fun q hq => ?_, qn⟩
    obtain ⟨ps, t1, t2, t3⟩ := qt q hq
    refine ⟨ps, ?_, t2, t3⟩
    rw [upd_ne fun z => by
      rw [z, hp] at t1
      cases t1]
    exact t1
  refine ⟨⟨gr.sub, pen, ⟨by rw [List.length_set]; exact h.rel.env.len, fun j s x a1 a2 => ?_, fun j k m n' w hne a1 a2 a3 => ?_⟩⟩, h.esub, gr, fun j m x a1 a2 => ?_, fun j n' fs' x a1 a2 => ?_⟩
  · rcases getset a2 with ⟨rfl, rfl⟩ | ⟨ne, a4⟩
    · rw [e1] at a1
      cases a1
      refine ⟨_, rfl, p, dx, _, vs ++ [v], rfl, upd_same, h2, h3, ?_, ?_, ?_, hu⟩
      · rw [List.length_append]
        exact Nat.le_trans putF_len (Nat.succ_le_succ h4)
      · rw [List.map_append]
        exact flds_put h5 (by rw [List.map_map]; exact hg)
      · rw [List.map_append]
        exact rr.append (.cons r .nil)
    · have so := h.rel.env.slot j s x a1 a4
      cases x with
      | no => trivial
      | val d => exact so
      | own m =>
        obtain ⟨v', b1, q, ws', ds', b2, b3, b4, b5, b6, b7, b8⟩ := so
        subst b2
        exact ⟨_, b1, q, ws', ds', rfl, b3, by rw [upd_ne (fun z => by rw [z, hp] at b4; cases b4)]; exact b4, b5, b6, b7, b8⟩
      | ins n' fs' =>
        obtain ⟨v', b1, q, dx', gs', us, b2, b3, b4, b5, b6⟩ := so
        subst b2
        subst hi
        cases j with
        | zero => exact absurd rfl ne
        | succ j =>
          have a3 : ρ.tail[j]? = some (.ins n' fs') := by
            rw [List.getElem?_tail]
            exact a4
          have := List.all_eq_true.mp ho _ (List.mem_of_getElem? a3)
          cases this
  · rcases getset a1 with ⟨_, b⟩ | ⟨_, a1⟩
    · cases b
    · rcases getset a2 with ⟨_, b⟩ | ⟨_, a2⟩
      · cases b
      · exact h.rel.env.apart j k m n' w hne a1 a2 a3
  · rcases getset a1 with ⟨_, b⟩ | ⟨_, a1⟩
    · cases b
    · exact h.new j m x a1 a2
  · rcases getset a1 with ⟨rfl, _⟩ | ⟨_, a1⟩
    · exact h.newI j n fs x e a2
    · exact h.newI j n' fs' x a1 a2
end
end VC
set_option Elab.async false
set_option linter.all false
set_option maxRecDepth 100000
set_option maxHeartbeats 1000000
/-! VCo: fresh lists; stores. -/
namespace VC
open PySem PySem.Spec PyProof.Rows L2
section
variable {X : Cx} {f : Cf} {t : Tab} {W : XK} {x y z : Expr} {es : List Expr} {a b c r e : VC.E} {pos : Pos}
/-- what is made at the end: a list of one's own -/
theorem own_end {H0 H G0 H1 : Hp} {st : PenSt} {l : List VC.D} {Q : VK} (sm : Same H0 H) (g : Grow f.c H0 H G0 H1) (pen : PenAt f.c G0 H1 st) (q : Fin f W (mkP f.c H) G0 H1 (M.ret (D.lst l) st) Q) {p : Addr} {vs : List V} (np : H1 p = none) (z : vs.length ≤ sizeLine) (rr : Reps f.c G0 vs l) :
    Q (.ref p) (upd H1 p (.lst vs)) := by
  exact q (.ref p) G0 _ (.loose g.sub np) (pen.loose np) ⟨p, rfl, g.noObj (.of np), p, vs, l, rfl, rfl, upd_same, g.sub.free np, pen.npa np, z, rr⟩
theorem m_lst (h : PA X es (tL f t W r)) (hr : hards r = true) (hz : elen r ≤ 1000) : PE X (.List es pos) (tMk f t W (.lst r)) :=
  PEimp (pe_lst h) fun σ H Q h => by
    obtain ⟨H0, ρ, st, rel, q⟩ := h
    refine ⟨H0, ρ, st, rel, q.step rel fun vs H1 ds st1 G0 g rel1 ra q1 => ?_⟩
    have hl : vs.length ≤ sizeLine := size_le (by rw [rpL_len ra]; omega)
    exact ⟨hl, fun p np => own_end rel.sub g rel1.pen q1 np hl (rpL_hard hr ra)⟩
/-- list(..) -/
theorem m_list {id : Str} {p : Pos} (k : Ok X f t W) (hg : Gl X id) (he : id = "list") (hs : (x :: es).all notStar = true) (ha : PA X (x :: es) (tL f t W r)) : PE X (.Call (.Name id p) (x :: es) [] pos) (tMk f t W (.bi .list r)) := by
  subst he
  simp only [List.all_cons, Bool.and_eq_true] at hs
  refine PEimp (pe_callTy call_list_of hg (k.blt "list" (by decide)) boot_list ha (by decide) (by decide) (star_cons hs.1) (star_any hs.2)) fun σ H Q h => ?_
  obtain ⟨H0, ρ, st, rel, q⟩ := h
  refine ⟨H0, ρ, st, rel, Fin.step (k := fun l => M.of (dList l)) q rel fun vs H1 ds st1 G0 g rel1 ra q1 => ?_⟩
  obtain ⟨d, e, q2⟩ := fin_of q1
  have hs := rpL_soft ra
  unfold dList at e
  split at e
  · cases e
    obtain ⟨v, rfl, h⟩ := hs.one
    obtain ⟨a, ws, rfl, ha, z, rr⟩ := soft_tup rel1.sub h
    rw [← k.hK] at ha
    exact ⟨a, ws, rfl, .inr ha, fun l nl => own_end rel.sub g rel1.pen q2 nl z rr⟩
  · cases e
    obtain ⟨v, rfl, h⟩ := hs.one
    obtain ⟨a, ws, rfl, ha, z, rr⟩ := soft_lst rel1.sub h
    exact ⟨a, ws, rfl, .inl (SqL.of ha), fun l nl => own_end rel.sub g rel1.pen q2 nl z rr⟩
  · cases e
/-- [..] * n -/
theorem m_mul {a : VC.E} (k : Ok X f t W) (ha : PE X x (tMk f t W a)) (hb : PE X y (tE f t W b)) : PE X (.BinOp x .Mult y pos) (tMk f t W (.bin .mul a b)) := by
  refine PEimp (pe_op op_rep ha hb) fun σ H Q h => ?_
  obtain ⟨H0, ρ, st, rel, q⟩ := h
  refine ⟨H0, ρ, st, rel, Fin.step (k := fun dx => .bind (ev t.Phi f.c.F b ρ) fun dy => M.of (dMul dx dy)) q rel fun v H1 d st1 G0 g rel1 ra q1 => ?_⟩
  refine ⟨G0, ρ, st1, rel1, q1.step rel1 fun u H2 db st2 G1 g2 rel2 rb q2 => ?_⟩
  obtain ⟨dd, e, q3⟩ := fin_of q2
  have hy := rpE_soft rb
  obtain ⟨_, _, _, ow⟩ := ra
  obtain ⟨p, vs, l, rfl, rfl, hp, _, _, z, rr⟩ := ow.grow g2
  unfold dMul at e
  split at e
  · cases ‹D.lst l = D.int _›
  · cases ‹D.lst l = D.tup _›
  · rename_i l' i e1
    cases ‹D.lst l = D.lst _›
    split at e
    · rename_i hz
      cases e
      have e2 := soft_int hy; subst e2
      have hl : vs.length * i.toNat ≤ sizeLine := size_le (Nat.le_trans (Nat.mul_le_mul (show vs.length ≤ 1000 by rw [rr.length]; exact hz.2.2) (show i.toNat ≤ 1000 by omega)) (by decide))
      refine ⟨p, i, vs, rfl, rfl, hp, by omega, by omega, hl, fun np nn => own_end rel.sub (g.trans g2) rel2.pen q3 nn ?_ (rr.flat _)⟩
      rw [PyProof.Rows.lm_len_rep_flat, Nat.mul_comm]
      exact hl
    · cases e
  · cases e
/-- a + [..] -/
theorem m_add {a : VC.E} (ha : PE X x (tE f t W a)) (hb : PE X y (tMk f t W b)) : PE X (.BinOp x .Add y pos) (tMk f t W (.bin .add a b)) := by
  refine PEimp (pe_op op_cat ha hb) fun σ H Q h => ?_
  obtain ⟨H0, ρ, st, rel, q⟩ := h
  refine ⟨H0, ρ, st, rel, Fin.step (k := fun dx => .bind (ev t.Phi f.c.F b ρ) fun dy => M.of (dAdd dx dy)) q rel fun v H1 d st1 G0 g rel1 ra q1 => ?_⟩
  refine ⟨G0, ρ, st1, rel1, q1.step rel1 fun u H2 db st2 G1 g2 rel2 rb q2 => ?_⟩
  obtain ⟨dd, e, q3⟩ := fin_of q2
  have hx := rpE_soft (rpE_mono g2 ra)
  obtain ⟨_, _, _, ow⟩ := rb
  obtain ⟨p, ws, l, rfl, rfl, hp, _, _, z, rr⟩ := ow
  unfold dAdd at e
  split at e
  · cases ‹D.lst l = D.int _›
  · cases ‹D.lst l = D.tup _›
  · rename_i l1 l2 e1
    cases ‹D.lst l = D.lst _›
    split at e
    · rename_i hz
      cases e
      obtain ⟨a1, vs, rfl, h1, _, r1⟩ := soft_lst rel2.sub hx
      have hl : vs.length + ws.length ≤ sizeLine := by rw [r1.length, rr.length]; exact size_le hz
      exact ⟨a1, p, vs, ws, rfl, rfl, h1, hp, hl, fun nn np => own_end rel.sub (g.trans g2) rel2.pen q3 np (by rw [List.length_append]; exact hl) (r1.append rr)⟩
    · cases e
  · cases e
/-- list(range(..)) -/
theorem m_listRg {id id2 : Str} {p p2 pos2 : Pos} (k : Ok X f t W) (hg0 : Gl X id2) (he0 : id2 = "list") (hg : Gl X id) (he : id = "range") (hr : elen r = es.length + 1) (hl : es.length ≤ 1) (hs : (x :: es).all notStar = true) (ha : PA X (x :: es) (tL f t W r)) :
    PE X (.Call (.Name id2 p2) [.Call (.Name id p) (x :: es) [] pos] [] pos2) (tMk f t W (.listIt .range r)) := by
  subst he he0
  simp only [List.all_cons, Bool.and_eq_true] at hs
  have hm := k.blt "range" (by decide)
  have hm0 := k.blt "list" (by decide)
  have fin : ∀ {σ : L2.St} {H : Hp} {Q : VK}, tMk f t W (.listIt .range r) σ H Q → tL f t W r σ H fun vs H1 => ∃ i j : Int, (vs = [.int i, .int j] ∨ (vs = [.int j] ∧ i = 0)) ∧ (vs.length = elen r) ∧ RgOk i j ∧ ∀ q, H1 q = none → Q (.ref q) (upd H1 q (.lst (rgV i j))) := fun {σ H Q} h => by
    obtain ⟨H0, ρ, st, rel, q⟩ := h
    refine ⟨H0, ρ, st, rel, Fin.step (k := fun l => .bind (.of (dItems .range l)) fun items => .ret (D.lst items)) q rel fun vs H1 ds st1 G0 g rel1 ra q1 => ?_⟩
    obtain ⟨items, e, q2⟩ := q1.some
    have hs := rpL_soft ra
    have done : ∀ {i j : Int}, items = upTo i (j - i).toNat → -1000000 ≤ i ∧ i ≤ 1000000 → -1000000 ≤ j ∧ j ≤ 1000000 → RgOk i j ∧ ∀ q, H1 q = none → Q (.ref q) (upd H1 q (.lst (rgV i j))) := fun {i j} e h1 h2 => by
      subst e
      refine ⟨⟨by omega, by omega, by omega, by omega, by omega⟩, fun np hn => own_end rel.sub g rel1.pen q2 hn ?_ (reps_rg i j)⟩
      rw [rgV_length, sizeLine_eq]
      omega
    change dRange ds = some items at e
    unfold dRange at e
    split at e
    · split at e
      · rename_i hz
        cases e
        obtain ⟨v, rfl, h1⟩ := hs.one
        have e1 := soft_int h1; subst e1
        exact ⟨0, _, .inr ⟨rfl, rfl⟩, rpL_len ra, done (by simp) (by omega) hz⟩
      · cases e
    · split at e
      · rename_i hz
        cases e
        obtain ⟨v, u, rfl, h1, h2⟩ := hs.two
        have e1 := soft_int h1; subst e1
        have e1 := soft_int h2; subst e1
        exact ⟨_, _, .inl rfl, rpL_len ra, done rfl hz.1 hz.2⟩
      · cases e
    · cases e
  cases es with
  | nil =>
    refine PEimp (pe_listRg k.calm hg0 hm0 (prg_1' hg hm ha (star_cons hs.1)) rfl) fun σ H Q h => ?_
    obtain ⟨H0, ρ, st, rel, q⟩ := fin h
    refine ⟨H0, ρ, st, rel, q.imp fun vs H1 ⟨i, j, hv, hlen, ok, q1⟩ => ?_⟩
    rcases hv with rfl | ⟨rfl, rfl⟩
    · rw [hr] at hlen
      cases hlen
    · exact ⟨j, rfl, ok, q1⟩
  | cons y es =>
    cases es with
    | cons _ _ => simp at hl
    | nil =>
      simp only [List.all_cons, List.all_nil, Bool.and_true] at hs
      refine PEimp (pe_listRg k.calm hg0 hm0 (prg_2' hg hm ha (by rw [star_cons hs.1, star_cons hs.2]; rfl) (by rw [star_cons hs.2]; rfl)) rfl) fun σ H Q h => ?_
      obtain ⟨H0, ρ, st, rel, q⟩ := fin h
      refine ⟨H0, ρ, st, rel, q.imp fun vs H1 ⟨i, j, hv, hlen, ok, q1⟩ => ?_⟩
      rcases hv with rfl | ⟨rfl, rfl⟩
      · exact ⟨i, j, rfl, ok, q1⟩
      · rw [hr] at hlen
        cases hlen
/-! ### stores -/
theorem PSimp {st : Stmt} {u u' : TS} (h : PS X st u) (k : ∀ D σ H, u' D σ H → u D σ H) : PS X st u' := ⟨fun pins s σ H D I q => h.run pins s σ H D I (k _ _ _ q)⟩
theorem PSsimp {st : List Stmt} {u u' : TS} (h : PSs X st u) (k : ∀ D σ H, u' D σ H → u D σ H) : PSs X st u' := ⟨fun pins s σ H D I q => h.run pins s σ H D I (k _ _ _ q)⟩
structure OkS (X : Cx) (f : Cf) (t : Tab) (W : XK) : Prop where
  ok : Ok X f t W
  kind : X.env.scope.kind = .function
  fn : ∀ x, X.fn x = true
  own : PassesOwn (model X.prog X.w) X.A X.env X.xe
/-- an expression that may be stored by its name -/
def SetP (X : Cx) (x : Expr) (te : TE) : Prop := ∀ (i : Nat) (y : Str) (py spos : Pos), NameOk X i y → PS X (.Assign [.Name y py] x spos) (tAsg te (gName i))
theorem set_plain {te : TE} (hN : X.N.Nodup) (hx : ∀ tgt line, swapsWith x tgt line X.env = pure false) (h : PE X x te) : SetP X x te := fun i y py spos n => ps_set hN n.ix n.loc h (hx _ _) n.fn
theorem noswap (h1 : ∀ a b c d, x ≠ .ListComp a b c d) (h2 : ∀ a b c d, x ≠ .SetComp a b c d) (h3 : ∀ a b c d e, x ≠ .DictComp a b c d e) (tgt : Option Expr) (line : Nat) (env : PySem.Env) : swapsWith x tgt line env = pure false := by
  cases x <;> first | rfl | exact absurd rfl (h1 _ _ _ _) | exact absurd rfl (h2 _ _ _ _) | exact absurd rfl (h3 _ _ _ _ _)
/-- a comprehension: its reading, stored by its name or not -/
theorem comp_pkg {tg : Tg} {k : VC.It} (o : OkS X f t W) (h : chk X.N f.c.used t (.comp e tg k r c) X.env.scope x = true) :
    ∃ tl, PE X x tl ∧ SetP X x tl ∧ (∀ σ H Q, tE f t W (.comp e tg k r c) σ H Q → tl σ H Q) ∧ ∀ σ H Q, tMk f t W (.comp e tg k r c) σ H Q → tl σ H Q := by
  obtain ⟨o, hkind, hfn, _⟩ := o
  unfold chk at h
  split at h
  · rename_i elt tg' iter ifs scope pos
    simp only [Bool.and_eq_true, Bool.not_eq_true'] at h
    obtain ⟨⟨⟨⟨⟨h1, h2⟩, h3⟩, h4⟩, h5⟩, h6⟩ := h
    obtain ⟨ok, hown⟩ := elt_ok h1
    have pi : PI X tg' iter (iT f t W false k r) ∧ ∀ v, foldedSetIterable iter X.env v = pure v := by
      cases k with
      | seq =>
        simp only at h6
        split at h6
        · exact ⟨i_seq o.hK ((good _).pe o h6) (fun e => nomatch e), fold_ok fun es k p e => by rw [e, chk_set] at h6; cases h6⟩
        · cases h6
      | range =>
        simp only at h6
        split at h6
        · simp only [Bool.and_eq_true, beq_iff_eq, decide_eq_true_eq] at h6
          obtain ⟨⟨⟨⟨q1, q2⟩, q3⟩, q4⟩, q5⟩ := h6
          exact ⟨i_range o (glB_ok q2) q3 (by rw [(good _).ln q5]; rfl) q1 q4 ((good _).pa o q5), fun _ => rfl⟩
        · cases h6
      | zip =>
        simp only at h6
        split at h6
        · simp only [Bool.and_eq_true, beq_iff_eq] at h6
          obtain ⟨⟨⟨⟨q1, rfl⟩, q3⟩, q4⟩, q5⟩ := h6
          exact ⟨i_zip o (glB_ok q1) q3 q4 (fun e => nomatch e) ((good _).pa o q5), fun _ => rfl⟩
        · cases h6
      | enum => cases h6
    have hg : ∀ (s : Shared) (H : Hp) (C : Addr) (cl : List (Str × Addr)) (fp : List Addr), PG (X.blk s H scope (compEnvC scope cl C X.env) fp) tg' (gT X.K tg) := fun s H C cl fp => tg_ok (X := X.blk s H scope (compEnvC scope cl C X.env) fp) o.calm o.nd (tg_blk h2)
    have ht : ∀ (s : Shared) (H : Hp) (C : Addr) (cl : List (Str × Addr)) (fp : List Addr), PTs (X.blk s H scope (compEnvC scope cl C X.env) fp) ifs (tC f t L2.E0 c) := fun s H C cl fp => (good _).pc (t := t.noL) (o.blk s H scope _ fp rfl rfl) h4
    have he : ∀ (s : Shared) (H : Hp) (C : Addr) (cl : List (Str × Addr)) (fp : List Addr), PE (X.blk s H scope (compEnvC scope cl C X.env) fp) elt (tE f t L2.E0 e) := fun s H C cl fp => (good _).pe (t := t.noL) (o.blk s H scope _ fp rfl rfl) h5
    have pe := pe_lc (g := gT X.K tg) (pos := pos) o.calm o.nd pi.1 ok hg ht he pi.2
    refine ⟨_, pe, fun i y py spos n => ?_, fun σ H Q q => ?_, fun σ H Q q => ?_⟩
    · have hsw : swapsWith (.ListComp elt [⟨tg', iter, ifs, 0⟩] scope pos) (some (.Name y py)) spos.line X.env = pure (X.env.blockKind == .function && X.env.kindOf y == some .local && py.line == pos.line && !(scope.names.any fun (n, k) => n == y && (k == .local || k == .cell))) := rfl
      cases hb : (X.env.blockKind == .function && X.env.kindOf y == some .local && py.line == pos.line && !(scope.names.any fun (n, k) => n == y && (k == .local || k == .cell))) with
      | false => exact ps_set o.nd n.ix n.loc pe (hsw.trans (by rw [hb])) n.fn
      | true =>
        have hl : X.env.scope.names.lookup y = some .local := by
          simp only [Bool.and_eq_true, beq_iff_eq] at hb
          exact hb.1.1.2
        exact ps_setLc (g := gT X.K tg) o.calm o.nd n.ix hl (hsw.trans (by rw [hb])) pi.1 ok hg ht he pi.2
    · rw [hown]
      have := lc_run (r := r) h3 rfl rfl rfl q
      rw [← o.hK] at this
      exact this
    · rw [hown]
      have := lc_runM (r := r) h3 rfl rfl rfl q
      rw [← o.hK] at this
      exact this
  · cases h
def isG : VC.E → Bool
  | .compG _ _ _ _ _ _ => true
  | _ => false
def notComp : VC.E → Bool
  | .comp _ _ _ _ _ => false
  | .compG _ _ _ _ _ _ => false
  | _ => true
theorem chk_sc {e : VC.E} {N : List Str} {sc : Scope} {a : Expr} {b : List Comprehension} {c : Scope} {d : Pos} : chk N f.c.used t e sc (.SetComp a b c d) = false := by
  cases e <;> (unfold chk; rfl)
theorem chk_dc {e : VC.E} {N : List Str} {sc : Scope} {a a' : Expr} {b : List Comprehension} {c : Scope} {d : Pos} : chk N f.c.used t e sc (.DictComp a a' b c d) = false := by
  cases e <;> (unfold chk; rfl)
theorem chk_lc {e : VC.E} {N : List Str} {sc : Scope} {a : Expr} {b : List Comprehension} {c : Scope} {d : Pos} (h : notComp e = true) : chk N f.c.used t e sc (.ListComp a b c d) = false := by
  cases e <;> first | (unfold chk; rfl) | cases h
theorem SetP.imp {u u' : TE} (h : SetP X x u) (k : ∀ σ H Q, u' σ H Q → u σ H Q) : SetP X x u' := fun i y py spos n => PSimp (h i y py spos n) fun D σ H q => k _ _ _ q
theorem chk_noswap (h : chk X.N f.c.used t e X.env.scope x = true) (ne : notComp e = true) (tgt : Option Expr) (line : Nat) (env : PySem.Env) : swapsWith x tgt line env = pure false :=
  noswap (fun a b c d e2 => by rw [e2, chk_lc ne] at h; cases h) (fun a b c d e2 => by rw [e2, chk_sc] at h; cases h) (fun a b c d e' e2 => by rw [e2, chk_dc] at h; cases h) tgt line env
theorem set_ok (o : OkS X f t W) (hG : isG e = false) (h : chk X.N f.c.used t e X.env.scope x = true) : SetP X x (tE f t W e) := by
  by_cases hc : ∃ a b c d e', e = .comp a b c d e'
  · obtain ⟨a, b, c, d, e', rfl⟩ := hc
    obtain ⟨tl, _, h2, h3, _⟩ := comp_pkg o h
    exact h2.imp h3
  · have ne : notComp e = true := by
      cases e <;> first | rfl | exact absurd ⟨_, _, _, _, _, rfl⟩ hc | cases hG
    exact set_plain o.ok.nd (fun _ _ => chk_noswap h ne _ _ _) ((good _).pe o.ok h)
/-- expressions that make a list -/
def mkB0 : VC.E → Bool
  | .lst _ => true
  | .comp _ _ _ _ _ => true
  | .listIt _ _ => true
  | .bi .list _ => true
  | .bin .mul (.lst _) _ => true
  | _ => false
theorem mk_ok0 (o : OkS X f t W) (m : mkB0 e = true) (h : chk X.N f.c.used t e X.env.scope x = true) : PE X x (tMk f t W e) ∧ SetP X x (tMk f t W e) := by
  have fin : notComp e = true → PE X x (tMk f t W e) → PE X x (tMk f t W e) ∧ SetP X x (tMk f t W e) := fun ne p => ⟨p, set_plain o.ok.nd (fun _ _ => chk_noswap h ne _ _ _) p⟩
  unfold mkB0 at m
  split at m
  · refine fin rfl ?_
    unfold chk at h
    split at h
    · simp only [Bool.and_eq_true, decide_eq_true_eq] at h
      exact m_lst ((good _).pa o.ok h.2) h.1.1 (by rw [(good _).ln h.2]; exact h.1.2)
    · cases h
  · obtain ⟨tl, h1, h2, _, h3⟩ := comp_pkg o h
    exact ⟨PEimp h1 h3, h2.imp h3⟩
  · refine fin rfl ?_
    unfold chk at h
    split at h
    · simp only [Bool.and_eq_true, beq_iff_eq, decide_eq_true_eq] at h
      obtain ⟨⟨⟨⟨⟨⟨⟨h1, h2⟩, h3⟩, h4⟩, h5⟩, h6⟩, h7⟩, h8⟩ := h
      subst h3
      exact m_listRg o.ok (glB_ok h1) h2 (glB_ok h5) h6 (by rw [(good _).ln h8]; rfl) h4 h7 ((good _).pa o.ok h8)
    · cases h
  · refine fin rfl ?_
    unfold chk at h
    split at h
    · simp only [Bool.and_eq_true, beq_iff_eq] at h
      obtain ⟨⟨h1, h2⟩, h3, h4⟩ := h
      exact m_list o.ok (glB_ok h1) h3 h2 ((good _).pa o.ok h4)
    · cases h
    · cases h
  · refine fin rfl ?_
    unfold chk at h
    split at h
    · simp only [Bool.and_eq_true, beq_iff_eq] at h
      obtain ⟨⟨rfl, h2⟩, h3⟩ := h
      unfold chk at h2
      split at h2
      · simp only [Bool.and_eq_true, decide_eq_true_eq] at h2
        exact m_mul o.ok (m_lst ((good _).pa o.ok h2.2) h2.1.1 (by rw [(good _).ln h2.2]; exact h2.1.2)) ((good _).pe o.ok h3)
      · cases h2
    · cases h
  · cases m
def mkB : VC.E → Bool
  | .bin .add _ b => mkB0 b
  | e => mkB0 e
theorem mk_ok (o : OkS X f t W) (m : mkB e = true) (h : chk X.N f.c.used t e X.env.scope x = true) : PE X x (tMk f t W e) ∧ SetP X x (tMk f t W e) := by
  unfold mkB at m
  split at m
  · refine (fun p => ⟨p, set_plain o.ok.nd (fun _ _ => chk_noswap h rfl _ _ _) p⟩ : PE X x _ → _) ?_
    unfold chk at h
    split at h
    · simp only [Bool.and_eq_true, beq_iff_eq] at h
      obtain ⟨⟨rfl, h2⟩, h3⟩ := h
      exact m_add ((good _).pe o.ok h2) (mk_ok0 o m h3).1
    · cases h
  · exact mk_ok0 o m h
end
end VC
set_option Elab.async false
set_option linter.all false
set_option maxRecDepth 100000
set_option maxHeartbeats 1000000
/-! VCp: statements, construct by construct. -/
namespace VC
open PySem PySem.Spec PyProof.Rows L2
section
variable {X : Cx} {f : Cf} {t : Tab} {W : XK} {x y z : Expr} {es : List Expr} {a b c r e : VC.E} {pos : Pos} {i j : Nat} {n m : Str}
theorem varB_pe {sc : Scope} {p : Pos} (hsc : sc = X.env.scope) (h : varB X.N sc i n = true) : PE X (.Name n p) (tVar i) := by
  subst hsc
  unfold varB at h
  simp only [Bool.and_eq_true, Bool.not_eq_true', beq_iff_eq] at h
  obtain ⟨⟨⟨h1, h2⟩, h3⟩, h4⟩ := h
  exact pe_var h1 (visB_ok h2) h3 h4
/-- a name that may be stored -/
def locB (N : List Str) (sc : Scope) (i : Nat) (n : Str) : Bool := N[i]? == some n && (sc.names.lookup n == some .local || sc.names.lookup n == some .cell)
theorem locB_ok (o : OkS X f t W) (h : locB X.N X.env.scope i n = true) : NameOk X i n := by
  unfold locB at h
  simp only [Bool.and_eq_true, Bool.or_eq_true, beq_iff_eq] at h
  exact ⟨h.1, h.2.elim .inl .inr, .inl (o.fn n)⟩
theorem FinS.nx {E0 E H0 H : Hp} {D : Ends} {σ : L2.St} {ρ : Env} {st : PenSt} (q : FinS f W E0 E H0 D (M.ret (.nx ρ) st)) (rel : SRel f E0 E H0 H σ ρ st) : D.nx σ H := q σ H0 H rel (Same.refl _)
theorem S_set (o : OkS X f t W) (hn : NameOk X i n) (nb : isBor e = false) (hG : isG e = false) (h : chk X.N f.c.used t e X.env.scope x = true) {p : Pos} : PS X (.Assign [.Name n p] x pos) (tS f t W (.set i e)) :=
  PSimp (set_ok o hG h i n p pos hn) fun D σ H ⟨E0, E, H0, ρ, st, rel, q⟩ => by
    refine ⟨H0, ρ, st, rel.rel, q.step rel fun w H1 d st1 G0 g rel1 ra q1 => ?_⟩
    rw [rpE_eq nb] at ra
    exact q1 _ G0 H1 (rel1.setVal i ra) (Same.refl _)
theorem S_own (o : OkS X f t W) (hn : NameOk X i n) (mk : mkB e = true) (h : chk X.N f.c.used t e X.env.scope x = true) {p : Pos} : PS X (.Assign [.Name n p] x pos) (tS f t W (.own i e)) :=
  PSimp ((mk_ok o mk h).2 i n p pos hn) fun D σ H ⟨E0, E, H0, ρ, st, rel, q⟩ => by
    refine ⟨H0, ρ, st, rel.rel, q.step rel fun w H1 d st1 G0 g rel1 ra q1 => ?_⟩
    obtain ⟨p, rfl, hp, ow⟩ := ra
    cases d with
    | lst l =>
      refine q1 _ G0 H1 (rel1.setOwn i ow ?_ fun j m _ e1 e2 => ?_) (Same.refl _)
      · exact rel.gr.noObj hp
      · obtain ⟨q, vs, e3, e4, _⟩ := rel.own e1
        rw [e2] at e3
        cases e3
        exact hp.lst e4
    | _ => exact q1.elim
theorem S_expr (o : OkS X f t W) (hc : notComp e = true) (h : chk X.N f.c.used t e X.env.scope x = true) : PS X (.Expr x pos) (tS f t W (.expr e)) :=
  PSimp (ps_expr ((good e).pe o.ok h) (chk_noswap h hc _ _ _)) fun D σ H ⟨E0, E, H0, ρ, st, rel, q⟩ =>
    ⟨H0, ρ, st, rel.rel, q.step rel fun w H1 d st1 G0 g rel1 ra q1 => q1.nx rel1⟩
theorem S_ret (o : OkS X f t W) (nb : isBor e = false) (h : chk X.N f.c.used t e X.env.scope x = true) : PS X (.Return (some x) pos) (tS f t W (.ret e)) :=
  PSimp (ps_ret ((good e).pe o.ok h)) fun D σ H ⟨E0, E, H0, ρ, st, rel, q⟩ =>
    ⟨H0, ρ, st, rel.rel, q.step rel fun w H1 d st1 G0 g rel1 ra q1 => by
      rw [rpE_eq nb] at ra
      exact q1 w G0 H1 rel1.gr rel1.rel.pen ra⟩
theorem S_brk : PS X (.Break pos) (tS f t W .brk) := PSimp ps_break fun D σ H ⟨E0, E, H0, ρ, st, rel, q⟩ => q σ H0 H rel (Same.refl _)
theorem S_cnt : PS X (.Continue pos) (tS f t W .cnt) := PSimp ps_continue fun D σ H ⟨E0, E, H0, ρ, st, rel, q⟩ => q σ H0 H rel (Same.refl _)
/-! ### suites -/
theorem Ss_nil : PSs X [] (tS f t W .skip) := PSsimp pss_nil fun D σ H ⟨E0, E, H0, ρ, st, rel, q⟩ => FinS.nx q rel
theorem Ss_cons {st : Stmt} {rest : List Stmt} {a b : S} (ha : PS X st (tS f t W a)) (hb : PSs X rest (tS f t W b)) : PSs X (st :: rest) (tS f t W (.seq a b)) :=
  PSsimp (pss_cons ha hb) fun D σ H ⟨E0, E, H0, ρ, s, rel, q⟩ =>
    ⟨E0, E, H0, ρ, s, rel, FinS.part q (fun ρ' st' q' σ' H0' H' r' s' => ⟨E0, E, H0', ρ', st', r', q'.mono s'⟩) (fun ρ' st' q' σ' H0' H' r' s' => q' σ' H0' H' r' s') (fun ρ' st' q' σ' H0' H' r' s' => q' σ' H0' H' r' s') (fun d st' q' v H0' H' g p r => q' v H0' H' g p r)⟩
theorem Ss_freeze {sts : List Stmt} {b : S} (hb : PSs X sts (tS f t W b)) : PSs X sts (tS f t W (.seq (.freeze i) b)) :=
  PSsimp hb fun D σ H ⟨E0, E, H0, ρ, s, rel, q⟩ => by
    simp only [exS, M.bind_bind] at q
    cases e : ρ[i]? with
    | none =>
      simp only [ownAt, e] at q
      exact q.elim
    | some sd =>
      cases sd with
      | own l =>
        simp only [ownAt, e, M.bind_ret] at q
        obtain ⟨G0, r, s'⟩ := rel.freeze e
        exact ⟨E0, E, G0, _, s, r, q.mono s'⟩
      | no =>
        simp only [ownAt, e] at q
        exact q.elim
      | val d =>
        simp only [ownAt, e] at q
        exact q.elim
      | ins n fs =>
        simp only [ownAt, e] at q
        exact q.elim
theorem Ss_forget {sts : List Stmt} {b : S} (hb : PSs X sts (tS f t W b)) : PSs X sts (tS f t W (.seq (.forget i) b)) :=
  PSsimp hb fun D σ H ⟨E0, E, H0, ρ, s, rel, q⟩ => ⟨E0, E, H0, _, s, rel.setNo i, q⟩
/-! ### if, while, for -/
theorem S_ite {xs ys : List Stmt} {a b : S} (hc : PT X x (tB f t W c)) (ha : PSs X xs (tS f t W a)) (hb : PSs X ys (tS f t W b)) : PS X (.If x xs ys pos) (tS f t W (.ite c a b)) :=
  PSimp (ps_if hc ha hb) fun D σ H ⟨E0, E, H0, ρ, st, rel, q⟩ => by
    have q : FinS f W E0 E H0 D (M.bind (M.bind (ev t.Phi f.c.F c ρ) fun d => M.of (dtruth d)) (fun i => if i then exS t.Phi f.c.F a ρ else exS t.Phi f.c.F b ρ) st) := by
      rw [M.bind_bind]
      exact q
    refine ⟨H0, ρ, st, rel.rel, q.step rel fun w H1 k st1 G0 g rel1 ra q1 => ?_⟩
    cases ra
    cases w with
    | true => exact ⟨E0, E, G0, ρ, st1, rel1, q1⟩
    | false => exact ⟨E0, E, G0, ρ, st1, rel1, q1⟩
theorem S_while {xs : List Stmt} {b : S} (o : OkS X f t W) (hc : PT X x (tB f t W c)) (hb : PSs X xs (tS f t W b)) : PS X (.While x xs [] pos) (tS f t W (.while c b)) :=
  PSimp (ps_while o.own hc hb) fun D σ H ⟨E0, E, H0, ρ, st, rel, q⟩ => by
    refine ⟨fun m σ H => ∃ H0 ρ st, SRel f E0 E H0 H σ ρ st ∧ FinS f W E0 E H0 D (whileL (fun ρ => .bind (ev t.Phi f.c.F c ρ) fun x => .of (dtruth x)) (fun ρ => exS t.Phi f.c.F b ρ) m ρ st), ⟨FUEL, H0, ρ, st, rel, q⟩, ?_⟩
    rintro m σ H ⟨H0, ρ, st, rel, q⟩
    cases m with
    | zero => exact q.elim
    | succ m =>
      refine ⟨H0, ρ, st, rel.rel, FinS.step q rel fun w H1 k st1 G0 g rel1 ra q1 => ?_⟩
      cases ra
      cases w with
      | true =>
        refine ⟨_, fun σ' H' h => ⟨m, Nat.lt_succ_self m, h⟩, E0, E, G0, ρ, st1, rel1, FinS.part q1 (fun ρ' st' q' σ' H0' H' r' s' => ⟨H0', ρ', st', r', FinS.mono q' s'⟩) (fun ρ' st' q' σ' H0' H' r' s' => q' σ' H0' H' r' s') (fun ρ' st' q' σ' H0' H' r' s' => ⟨H0', ρ', st', r', FinS.mono q' s'⟩) (fun d st' q' v H0' H' g p r => q' v H0' H' g p r)⟩
      | false => exact FinS.nx q1 rel1
theorem SRel.setAll {E0 E H0 H : Hp} {st : PenSt} : ∀ {is : List Nat} {vs : List V} {ds : List D} {σ : L2.St} {ρ ρ' : Env}, SRel f E0 E H0 H σ ρ st → Reps f.c H0 vs ds → VC.setAll ρ is ds = some ρ' → ∃ σ', setAllV σ is vs = some σ' ∧ SRel f E0 E H0 H σ' ρ' st
  | [], _, _, σ, _, _, h, .nil, e => by
    cases e
    exact ⟨σ, rfl, h⟩
  | i :: is, _, _, σ, ρ, ρ', h, .cons r rs, e => by
    obtain ⟨σ', e1, h1⟩ := SRel.setAll (h.setVal i r) rs e
    exact ⟨σ', e1, h1⟩
  | [], _, _, _, _, _, _, .cons _ _, e => by cases e
  | _ :: _, _, _, _, _, _, _, .nil, e => by cases e
theorem setAllV_len : ∀ {is : List Nat} {σ : L2.St} {vs : List V} {σ' : L2.St}, setAllV σ is vs = some σ' → vs.length = is.length := by
  intro is
  induction is with
  | nil => intro σ vs σ' e; cases vs <;> first | rfl | cases e
  | cons i is ih => intro σ vs σ' e; cases vs <;> first | cases e | (rw [List.length_cons, List.length_cons, ih e])
theorem gT_S {tg : Tg} {v : V} {d : D} {E0 E H0 H : Hp} {σ : L2.St} {ρ ρ' : Env} {st : PenSt} {Q : L2.St → Hp → Prop} (en : SRel f E0 E H0 H σ ρ st) (r : Rep f.c H0 v d) (e : bindTg tg d ρ = some ρ') (q : ∀ σ', SRel f E0 E H0 H σ' ρ' st → Q σ' H) : gT f.c.K tg v σ H Q := by
  cases tg with
  | name i =>
    cases e
    exact q _ (en.setVal i r)
  | tup is =>
    cases r <;> try (cases e; done)
    rename_i a vs ds h z rs
    obtain ⟨σ', e1, h1⟩ := en.setAll rs e
    exact ⟨a, vs, rfl, same_sqT en.rel.sub h, setAllV_len e1, σ', e1, q σ' h1⟩
theorem S_for {tgt : Expr} {tg : Tg} {k : VC.It} {xs : List Stmt} {b : S} (o : OkS X f t W) (hi : PI X tgt x (iT f t W true k r)) (hg : tgOk X tg tgt) (hf : ∀ v, foldedSetIterable x X.env v = pure v) (hb : PSs X xs (tS f t W b)) : PS X (.For tgt x xs [] pos) (tS f t W (.for tg k r b)) :=
  PSimp (ps_for o.own o.ok.calm hi (tg_ok o.ok.calm o.ok.nd hg) hb hf) fun D σ H ⟨E0, E, H0, ρ, st, rel, q⟩ => by
    have q : FinS f W E0 E H0 D (M.bind (M.bind (evs t.Phi f.c.F r ρ) fun l => M.of (dItems k l)) (fun items => forL (fun d ρ => match bindTg tg d ρ with
        | none => .bad
        | some ρ' => exS t.Phi f.c.F b ρ') items ρ) st) := by
      rw [M.bind_bind]
      exact q
    refine ⟨H0, ρ, st, rel.rel, q.step rel fun J H1 items st1 G0 g rel1 sv q1 => ?_⟩
    refine ⟨fun i m σ H => m = items.length - i ∧ i ≤ items.length ∧ ∃ K0 ρ st, SRel f E0 E K0 H σ ρ st ∧ Same G0 K0 ∧ FinS f W E0 E K0 D (forL (fun d ρ => match bindTg tg d ρ with
        | none => .bad
        | some ρ' => exS t.Phi f.c.F b ρ') (items.drop i) ρ st), ⟨items.length, by simp, Nat.zero_le _, G0, ρ, st1, rel1, Same.refl _, q1⟩, ?_⟩
    rintro i m σ H ⟨rfl, hi, K0, ρ, st, rel, sm, q⟩
    have wk : walkR f.c true G0 H1 K0 H := ⟨sm, rel.rel.sub⟩
    by_cases hlt : i < items.length
    · refine .inr ⟨sv.go i _ _ wk hlt, fun σ' H' => ∃ K0 ρ st, SRel f E0 E K0 H' σ' ρ st ∧ Same G0 K0 ∧ FinS f W E0 E K0 D (forL (fun d ρ => match bindTg tg d ρ with
          | none => .bad
          | some ρ' => exS t.Phi f.c.F b ρ') (items.drop (i + 1)) ρ st), fun σ' H' h => ⟨items.length - (i + 1), by omega, rfl, hlt, h⟩, fun v H3 y => ?_⟩
      obtain ⟨d, L0, e1, s3, rx⟩ := sv.yld i _ _ _ _ wk rel.rel.sub hlt y
      have edrop : items.drop i = d :: items.drop (i + 1) := by
        rw [List.drop_eq_getElem_cons hlt]
        rw [List.getElem?_eq_getElem hlt] at e1
        cases e1
        rfl
      rw [edrop] at q
      have rel3 : SRel f E0 E L0 H3 σ ρ st := rel.grow s3.g (s3.p _ rel.rel.pen)
      have q3 := q.mono s3.g.fast
      rw [o.ok.hK]
      cases eb : bindTg tg d ρ with
      | none =>
        simp only [forL, eb] at q3
        exact q3.elim
      | some ρ' =>
        simp only [forL, eb] at q3
        refine gT_S rel3 rx eb fun σ' rel4 => ?_
        refine ⟨E0, E, L0, ρ', st, rel4, FinS.part q3 (fun ρ2 st2 q' σ2 M0 H' r' s' => ⟨M0, ρ2, st2, r', sm.trans (s3.g.fast.trans s'), FinS.mono q' s'⟩) (fun ρ2 st2 q' σ2 M0 H' r' s' => q' σ2 M0 H' r' s') (fun ρ2 st2 q' σ2 M0 H' r' s' => ⟨M0, ρ2, st2, r', sm.trans (s3.g.fast.trans s'), FinS.mono q' s'⟩) (fun d st' q' v H0' H' g p r => q' v H0' H' g p r)⟩
    · have e : i = items.length := by omega
      subst e
      rw [List.drop_length] at q
      exact .inl ⟨sv.stop _ _ _ wk rfl, FinS.nx q rel⟩
/-! ### lists that are changed -/
theorem bind_own {ρ : Env} {st : PenSt} {E0 E H0 : Hp} {D : Ends} {k : List VC.D → M VC.Flow} (q : FinS f W E0 E H0 D (M.bind (ownAt ρ i) k st)) : ∃ l, ρ[i]? = some (.own l) ∧ FinS f W E0 E H0 D (k l st) := by
  cases e : ρ[i]? with
  | none =>
    simp only [ownAt, e] at q
    exact q.elim
  | some sd =>
    cases sd with
    | own l =>
      simp only [ownAt, e, M.bind_ret] at q
      exact ⟨l, rfl, q⟩
    | no =>
      simp only [ownAt, e] at q
      exact q.elim
    | val d =>
      simp only [ownAt, e] at q
      exact q.elim
    | ins n fs =>
      simp only [ownAt, e] at q
      exact q.elim
theorem few1 {cpos : Pos} (n : notStar x = true) (env : PySem.Env) : ((backTo cpos (starEach [x] env)).all (fun x => !x.1) && (backToKw cpos (keywordEach [] env)).all (fun x => x.1.isSome)
      && decide (([x] : List Expr).length + ([] : List Keyword).length + (if ([] : List Keyword).isEmpty then 0 else 1) < 30)) = true := by
  rw [star_cons n]
  rfl
theorem S_append {p1 p2 cpos : Pos} (o : OkS X f t W) (hv : varB X.N X.env.scope i n = true) (n1 : notStar x = true) (nb : isBor e = false) (hl : (p2.endLine == cpos.line) = true) (h : chk X.N f.c.used t e X.env.scope x = true) :
    PS X (.Expr (.Call (.Attribute (.Name n p1) "append" p2) [x] [] cpos) pos) (tS f t W (.append i e)) :=
  PSimp (ps_expr (pe_bm PySem.F.plainAttrs_list PySem.F.slot_list_append PySem.F.type_list_append mt_append (varB_pe rfl hv) (pa_cons ((good e).pe o.ok h) pa_nil (star_cons n1)) rfl (few1 n1 _) hl (star_cons n1) rfl) rfl) fun D σ H ⟨E0, E, H0, ρ, st, rel, q⟩ => by
    obtain ⟨l, e1, q⟩ := bind_own q
    obtain ⟨p, vs, e2, h1, h2, h3, z, rr, h4⟩ := rel.own e1
    refine ⟨_, e2, .inl ⟨rfl, vs, .of h1⟩, H0, ρ, st, rel.rel, q.step rel fun v H1 d st1 G0 g rel1 ra q1 => ?_⟩
    rw [rpE_eq nb] at ra
    obtain ⟨p', vs', e2', h1', _, _, z', rr', _⟩ := rel1.own e1
    rw [e2] at e2'
    cases e2'
    split at q1
    · rename_i hz
      have hlen : vs'.length < sizeLine := by rw [rr'.length, sizeLine_eq]; omega
      exact ⟨p, vs', v, rfl, rfl, h1', hlen, q1 _ G0 _ (rel1.change e1 e2 (by rw [List.length_append]; exact hlen) (rr'.append (.cons ra .nil))).1 (Same.refl _)⟩
    · exact q1.elim
theorem S_pop {p0 p1 p2 cpos : Pos} (o : OkS X f t W) (hn : NameOk X j m) (hv : varB X.N X.env.scope i n = true) (hl : (p2.endLine == cpos.line) = true) :
    PS X (.Assign [.Name m p0] (.Call (.Attribute (.Name n p1) "pop" p2) [] [] cpos) pos) (tS f t W (.pop j i)) :=
  PSimp (ps_set o.ok.nd hn.ix hn.loc (pe_bm0 PySem.F.plainAttrs_list PySem.F.slot_list_pop PySem.F.type_list_pop mt_pop (varB_pe rfl hv) rfl hl) rfl hn.fn) fun D σ H ⟨E0, E, H0, ρ, st, rel, q⟩ => by
    obtain ⟨l, e1, q⟩ := bind_own q
    obtain ⟨p, vs, e2, h1, h2, h3, z, rr, h4⟩ := rel.own e1
    obtain ⟨d, ed, q1⟩ := q.some
    have hd : l[l.length - 1]? = some d := by rw [← List.getLast?_eq_getElem?]; exact ed
    obtain ⟨v, hv', rv⟩ := rr.get hd
    refine ⟨_, e2, .inl ⟨rfl, vs, .of h1⟩, p, vs, v, rfl, rfl, h1, by rw [rr.length]; exact hv', ?_⟩
    have r2 := (rel.change e1 e2 (vs := vs.dropLast) (by rw [List.length_dropLast]; omega) rr.dropLast).1
    exact q1 _ H0 _ (r2.setVal j rv) (Same.refl _)
theorem S_setIx {p1 p2 : Pos} {k : VC.E} (o : OkS X f t W) (hv : varB X.N X.env.scope i n = true) (nb : isBor e = false) (nt : ∀ a b c, x ≠ .Tuple a b c) (ns : notSlice y = true) (h : chk X.N f.c.used t e X.env.scope x = true) (hk : chk X.N f.c.used t k X.env.scope y = true) :
    PS X (.Assign [.Subscript (.Name n p1) y p2] x pos) (tS f t W (.setIx i k e)) := by
  have hw : swappedStores [.Subscript (.Name n p1) y p2] x X.env = pure none := by
    cases x <;> first | rfl | exact absurd rfl (nt _ _ _)
  refine PSimp (ps_asg ((good e).pe o.ok h) (pg_sub (varB_pe rfl hv) ((good k).pe o.ok hk) set_list (by intro v; cases y <;> first | rfl | cases ns)) (by cases x <;> rfl) hw rfl) fun D σ H ⟨E0, E, H0, ρ, st, rel, q⟩ => ?_
  refine ⟨H0, ρ, st, rel.rel, q.step rel fun v H1 d st1 G0 g rel1 ra q1 => ?_⟩
  rw [rpE_eq nb] at ra
  obtain ⟨l, e1, q1⟩ := bind_own q1
  obtain ⟨p, vs, e2, h1, h2, h3, z, rr, h4⟩ := rel1.own e1
  refine ⟨_, e2, G0, ρ, st1, rel1.rel, q1.step rel1 fun u H2 dk st2 G1 g2 rel2 rk q2 => ?_⟩
  obtain ⟨p', vs', e2', h1', _, _, z', rr', _⟩ := rel2.own e1
  rw [e2] at e2'
  cases e2'
  cases dk with
  | int zz =>
    obtain ⟨jj, ej, q3⟩ := q2.some
    refine ⟨p, vs', zz, jj, rfl, soft_int (rpE_soft rk), h1', by rw [rr'.length]; exact ej, q3 _ G1 _ (rel2.change e1 e2 (by rw [List.length_set]; exact z') (rr'.set (ra.mono g2.fast) jj)).1 (Same.refl _)⟩
  | _ => exact q2.elim
theorem popAt_ok {l : List V} {z : Int} {k : Nat} (h : ixAt l.length z = some k) (hl : l.length ≤ sizeLine) : -(2 ^ 63) ≤ z ∧ z < 2 ^ 63 ∧ seqIndex? z l.length = some k := by
  obtain ⟨h1, _, h3, h4⟩ := ixN_seq (n := l.length) (i := z) (j := k) h
  rw [sizeLine_eq] at hl
  exact ⟨by omega, by omega, h1⟩
theorem S_appendPop {p1 p2 p3 p4 cpos dpos : Pos} (o : OkS X f t W) (hv : varB X.N X.env.scope i n = true) (hu : varB X.N X.env.scope j m = true) (n1 : notStar x = true) (hl : (p2.endLine == cpos.line) = true) (hl2 : (p4.endLine == dpos.line) = true) (h : chk X.N f.c.used t e X.env.scope x = true) :
    PS X (.Expr (.Call (.Attribute (.Name n p1) "append" p2) [.Call (.Attribute (.Name m p3) "pop" p4) [x] [] dpos] [] cpos) pos) (tS f t W (.appendPop i j e)) :=
  PSimp (ps_expr (pe_bm PySem.F.plainAttrs_list PySem.F.slot_list_append PySem.F.type_list_append mt_append (varB_pe rfl hv)
    (pa_cons (pe_bm PySem.F.plainAttrs_list PySem.F.slot_list_pop PySem.F.type_list_pop mt_popAt (varB_pe rfl hu) (pa_cons ((good e).pe o.ok h) pa_nil (star_cons n1)) rfl (few1 n1 _) hl2 (star_cons n1) rfl) pa_nil rfl) rfl (few1 rfl _) hl rfl rfl) rfl) fun D σ H ⟨E0, E, H0, ρ, st, rel, q⟩ => by
    simp only [exS] at q
    split at q
    · exact q.elim
    rename_i hij
    obtain ⟨l, e1, q⟩ := bind_own q
    obtain ⟨l2, f1, q⟩ := bind_own q
    obtain ⟨p, vs, e2, h1, h2, h3, z, rr, h4⟩ := rel.own e1
    obtain ⟨p', ws, f2, k1, k2, k3, z', ss, k4⟩ := rel.own f1
    refine ⟨_, e2, .inl ⟨rfl, vs, .of h1⟩, _, f2, .inl ⟨rfl, ws, .of k1⟩, H0, ρ, st, rel.rel, q.step rel fun v H1 d st1 G0 g rel1 ra q1 => ?_⟩
    cases d with
    | int zz =>
      obtain ⟨k, ek, q2⟩ := q1.some
      obtain ⟨d, ed, q3⟩ := q2.some
      obtain ⟨pp, vs, e2', h1, h2, h3, z, rr, h4⟩ := rel1.own e1
      rw [e2] at e2'
      cases e2'
      obtain ⟨pp', ws, f2', k1, k2, k3, z', ss, k4⟩ := rel1.own f1
      rw [f2] at f2'
      cases f2'
      obtain ⟨u, hu, ru⟩ := ss.get ed
      rw [← ss.length] at ek
      obtain ⟨o1, o2, o3⟩ := popAt_ok ek z'
      refine ⟨p', ws, zz, k, u, rfl, by rw [soft_int (rpE_soft ra)], k1, o1, o2, o3, hu, ?_⟩
      have hne : p ≠ p' := fun e => by
        subst e
        exact rel1.rel.env.apart i j l l2 _ hij e1 f1 e2 f2
      have z2 : (ws.eraseIdx k).length ≤ sizeLine := Nat.le_trans (List.length_eraseIdx_le _ _) z'
      have r2 := (rel1.change f1 f2 (vs := ws.eraseIdx k) z2 (ss.erase k)).1
      have e1' : (ρ.set j (.own (l2.eraseIdx k)))[i]? = some (.own l) := by rw [List.getElem?_set_ne (Ne.symm hij)]; exact e1
      split at q3
      · rename_i hz
        have hlen : vs.length < sizeLine := by rw [rr.length, sizeLine_eq]; omega
        refine ⟨p, vs, u, rfl, rfl, by rw [upd_ne hne]; exact h1, hlen, ?_⟩
        exact q3 _ G0 _ (r2.change e1' e2 (by rw [List.length_append]; exact hlen) (rr.append (.cons ru .nil))).1 (Same.refl _)
      · exact q3.elim
    | _ => exact q1.elim
/-! ### a, b = e -/
def gTL (K : PySem.W.Frag) (is : List Nat) : TG := fun v σ H Q => gTup K is.length (gAll is) v σ H Q ∨ gUnl K is.length (gAll is) v σ H Q
theorem tg_okL (hc : X.calm = true) (hN : X.N.Nodup) {is : List Nat} {es : List Expr} {kk : Nat} {tp : Pos} (h : tgOk X (.tup is) (.Tuple es kk tp)) : PG X (.Tuple es kk tp) (gTL X.K is) := by
  obtain ⟨g1, g2, g3⟩ := pgs_names hN h.1 h.2
  exact ⟨fun pins s σ H v u Q I r hw => hw.elim (fun q => (pg_tup hc g1 g2 g3).run pins s σ H v u Q I r q) fun q => (pg_unl hc g1 g2 g3).run pins s σ H v u Q I r q⟩
theorem S_unpack {es : List Expr} {kk : Nat} {tp : Pos} {is : List Nat} (o : OkS X f t W) (hg : tgOk X (.tup is) (.Tuple es kk tp)) (nb : isBor e = false) (nt : ∀ a b c, x ≠ .Tuple a b c) (h : chk X.N f.c.used t e X.env.scope x = true) : PS X (.Assign [.Tuple es kk tp] x pos) (tS f t W (.unpack is e)) := by
  have hw : swappedStores [.Tuple es kk tp] x X.env = pure none := by
    cases x <;> first | rfl | exact absurd rfl (nt _ _ _)
  refine PSimp (ps_asg ((good e).pe o.ok h) (tg_okL o.ok.calm o.ok.nd hg) (by cases x <;> rfl) hw rfl) fun D σ H ⟨E0, E, H0, ρ, st, rel, q⟩ => ?_
  refine ⟨H0, ρ, st, rel.rel, q.step rel fun v H1 d st1 G0 g rel1 ra q1 => ?_⟩
  rw [rpE_eq nb] at ra
  rw [o.ok.hK]
  cases d with
  | tup ds =>
    obtain ⟨ρ', e1, q2⟩ := q1.some
    exact .inl (gT_S (tg := .tup is) rel1 ra e1 fun σ' r' => FinS.nx q2 r')
  | lst ds =>
    obtain ⟨ρ', e1, q2⟩ := q1.some
    have ra : Rep f.c G0 v (.lst ds) := ra
    cases ra with
    | @lst a vs _ ha z rs =>
      obtain ⟨σ', e2, h1⟩ := rel1.setAll rs e1
      exact .inr ⟨a, vs, rfl, SqL.of (rel1.rel.sub _ _ ha), setAllV_len e2, σ', e2, FinS.nx q2 h1⟩
  | _ => exact q1.elim
/-! ### self.g = e -/
theorem S_setF {g : String} {id : Str} {p1 p2 : Pos} (o : OkS X f t W) (hv : varB X.N X.env.scope i n = true) (hi : id = Str.ofString g) (nb : isBor e = false) (nt : ∀ a b c, x ≠ .Tuple a b c) (h : chk X.N f.c.used t e X.env.scope x = true) :
    PS X (.Assign [.Attribute (.Name n p1) id p2] x pos) (tS f t W (.setF i g e)) := by
  subst hi
  have hs : swapsWith x (some (.Attribute (.Name n p1) (Str.ofString g) p2)) pos.line X.env = pure false := by
    cases x <;> first | rfl | exact absurd rfl (nt _ _ _)
  exact PSimp (ps_fld (varB_pe rfl hv) ((good e).pe o.ok h) hs) fun D σ H ⟨E0, E, H0, ρ, st, rel, q⟩ => by
    simp only [exS] at q
    refine ⟨H0, ρ, st, rel.rel, q.step rel fun v H1 d st1 G0 g' rel1 ra q1 => ?_⟩
    rw [rpE_eq nb] at ra
    cases es : ρ[i]? with
    | none =>
      simp only [es] at q1
      exact q1.elim
    | some sd =>
      cases sd with
      | ins m fs =>
        simp only [es] at q1
        split at q1
        · rename_i hz
          obtain ⟨z1, z2, z3, z4, z5⟩ := hz
          obtain ⟨p, dx, gs, vs, e2, h1, h2, h3, h4, h5, rr, h6, hu, hx⟩ := rel1.insAt es
          rcases o.ok.objs m with ob | ob
          · rw [if_neg (by rw [hx]; decide)] at ob
            refine ⟨_, e2, p, f.c.cl m, dx, gs, rfl, h1, by rw [o.ok.hK]; exact ob.cl, by rw [o.ok.hK]; exact o.ok.fld m g hu (List.contains_iff_mem.mp z5), by omega, ?_⟩
            exact q1 σ G0 _ (rel1.setF es e2 h1 z2 z3 z4 ra) (Same.refl _)
          · rw [hu] at ob
            cases ob
        · exact q1.elim
      | _ =>
        simp only [es] at q1
        exact q1.elim
/-! ### x = f(..), a list that comes is one's own -/
def tFr (f : Cf) (t : Tab) (W : XK) (m : Nat) (r : VC.E) : TE := fun σ H Q => ∃ H0 ρ st, Rel f.c H0 H σ ρ st ∧ Fin f W (frP f.c H) H0 H (M.bind (evs t.Phi f.c.F r ρ) (fun l => t.Phi m l) st) Q
theorem s_fr {m : Nat} {id : Str} {p : Pos} {es : List Expr} (k : Ok X f t W) (hn : t.hasF m = true) (hg : Gl X id) (he : id = Str.ofString (t.nm m)) (hd : (id == ("__debug__" : Str)) = false) (hr : hards r = true) (hs : (x :: es).all notStar = true) (ha : PA X (x :: es) (tL f t W r)) :
    PE X (.Call (.Name id p) (x :: es) [] pos) (tFr f t W m r) := by
  subst he
  obtain ⟨fa, fd, ps, lv, hm, hk, F, hl, hb, hz⟩ := k.frs m hn
  refine ⟨fun pins s σ H Q I h => ?_⟩
  obtain ⟨H0, ρ, st, rel, q⟩ := h
  simp only [List.all_cons, Bool.and_eq_true] at hs
  refine wpAny_Call_Name_kw (ld_glob I hg hm ?_ hd)
  refine PySem.W.callWith_K (h₀ := X.base) I.ok.mod.kin hk (thn (ha.run pos pins s σ H (fun vs H1 => ∃ ds st1 G0, Rel f.c G0 H1 σ ρ st1 ∧ Reps f.c G0 vs ds ∧ Fin f W (frP f.c H1) G0 H1 (t.Phi m ds st1) Q) I ⟨H0, ρ, st, rel, q.step rel fun vs H1 ds st1 G0 g rel1 ra q1 => ⟨ds, st1, G0, rel1, rpL_hard hr ra, ?_⟩⟩) fun us s1 ⟨vs, H1, I1, rv, ds, st1, G0, rel1, ra, q1⟩ => ⟨I1.kIn, ?_⟩) (star_cons hs.1) (star_any hs.2)
  · cases em : t.Phi m ds st1 with
    | bad =>
      rw [em] at q1
      exact q1
    | err e s' =>
      rw [em] at q1
      exact q1
    | ok d s' =>
      rw [em] at q1
      intro w K K' g2 pp rr
      refine q1 w K K' g2 pp ?_
      unfold frP at rr ⊢
      cases d with
      | lst l =>
        obtain ⟨pa, e1, e2, e3⟩ := rr
        exact ⟨pa, e1, g.noObj e2, e3⟩
      | _ => exact rr
  have hne : t.Phi m ds st1 ≠ .bad := fun e => by
    rw [e] at q1
    exact q1
  have hlen : us.length = ps.length := by
    rw [← rv.length, ra.length]
    exact hz ds st1 hne
  refine wpAny_call (codeAny_mono (F.run X.A X.stack s1 H1 ⟨us, []⟩ us vs Q W k.grd hl I1.env0 ?_ rv ⟨G0, ds, st1, rel1.sub, rel1.pen, ra, by rw [rv.length]; exact hlen, q1⟩) fun r s' hq => ?_)
  · have := hb s1 us I1.kIn (by rw [List.append_nil]; exact hlen)
    rw [List.append_nil] at this
    exact this
  cases r with
  | error e => exact k.pas pins σ H1 s1 e s' I1 hq
  | ok fl =>
    cases fl with
    | ret u => exact I1.after hq
    | next => exact False.elim hq
    | brk => exact False.elim hq
    | cont => exact False.elim hq
theorem S_ownCall {m : Nat} {id : Str} {p p' pos' : Pos} {es : List Expr} (o : OkS X f t W) (hv : NameOk X i n) (hn : t.hasF m = true) (hg : Gl X id) (he : id = Str.ofString (t.nm m)) (hd : (id == ("__debug__" : Str)) = false) (hr : hards r = true) (hs : (x :: es).all notStar = true) (ha : PA X (x :: es) (tL f t W r)) :
    PS X (.Assign [.Name n p'] (.Call (.Name id p) (x :: es) [] pos') pos) (tS f t W (.ownCall i m r)) :=
  PSimp (set_plain o.ok.nd (fun _ _ => rfl) (s_fr (pos := pos') (p := p) o.ok hn hg he hd hr hs ha) i n p' pos hv) fun D σ H ⟨E0, E, H0, ρ, st, rel, q⟩ => by
    simp only [exS] at q
    rw [← M.bind_bind] at q
    refine ⟨H0, ρ, st, rel.rel, ?_⟩
    have q2 := q.step (rp := frP f.c H) rel (fun w H1 d st1 G0 g rel1 ra q1 => (?_ : (fun v H' => D.nx (σ.set i (some v)) H') w H1))
    · exact q2
    · cases d with
      | lst l =>
        obtain ⟨pa, rfl, hp, ow⟩ := ra
        refine q1 _ G0 H1 (rel1.setOwn i ow ?_ fun j m' _ e1 e2 => ?_) (Same.refl _)
        · exact rel.gr.noObj hp
        · obtain ⟨q, vs, e3, e4, _⟩ := rel.own e1
          rw [e2] at e3
          cases e3
          exact hp.lst e4
      | _ => exact q1 _ G0 H1 (rel1.setVal i ra) (Same.refl _)
end
end VC
set_option Elab.async false
set_option linter.all false
set_option maxRecDepth 100000
set_option maxHeartbeats 1000000
/-! VCq: several stores at once. -/
namespace VC
open PySem PySem.Spec PyProof.Rows L2
def namesOn (sc : Scope) (line : Nat) (ts : List Expr) : List Str := ts.filterMap fun
    | .Name id pos => if sc.names.lookup id == some .local && pos.line == line then some id else none
    | _ => none
def lineOf (ts : List Expr) : Nat := (ts.head?.map (·.pos.line)).getD 0
def isStar : Expr → Bool
  | .Starred .. => true
  | _ => false
/-- no swap -/
def plainB (sc : Scope) (ts vs : List Expr) : Bool :=
  (!(ts.length == 2 || ts.length == 3) || vs.length != ts.length) || (namesOn sc (lineOf ts) ts).length != ts.length || vs.all (foldedForSure 8)
def swapB (sc : Scope) (ts vs : List Expr) : Bool :=
  (ts.length == 2 || ts.length == 3) && vs.length == ts.length && (namesOn sc (lineOf ts) ts).length == ts.length && (namesOn sc (lineOf ts) ts).eraseDups.length == (namesOn sc (lineOf ts) ts).length && !(vs.all (foldedForSure 8)) && !(vs.all (constantsAlone 8)) && !(vs.any isStar)
theorem swap_eq {env : PySem.Env} {ts vs : List Expr} {a b : Nat} {p q : Pos} : swappedStores [.Tuple ts a p] (.Tuple vs b q) env =
    (if (!(ts.length == 2 || ts.length == 3) || vs.length != ts.length || env.blockKind != ScopeKind.function) = true then pure none
    else if (vs.any isStar) = true then pure none
    else if ((namesOn env.scope (lineOf ts) ts).length != ts.length || (namesOn env.scope (lineOf ts) ts).eraseDups.length != (namesOn env.scope (lineOf ts) ts).length) = true then pure none
    else if vs.all (foldedForSure 8) = true then pure none
    else if vs.all (constantsAlone 8) = true then (do unsupported "assign.tuple-of-constant-expressions:order-of-the-stores"; pure (some (namesOn env.scope (lineOf ts) ts)))
    else pure (some (namesOn env.scope (lineOf ts) ts))) := by
  unfold swappedStores
  simp only []
  rfl
theorem plain_swap {env : PySem.Env} {ts vs : List Expr} {a b : Nat} {p q : Pos} (h : plainB env.scope ts vs = true) : swappedStores [.Tuple ts a p] (.Tuple vs b q) env = pure none := by
  rw [swap_eq]
  unfold plainB at h
  split
  · rfl
  rename_i h1
  split
  · rfl
  split
  · rfl
  rename_i h3
  split
  · rfl
  rename_i h4
  exfalso
  simp only [Bool.or_eq_true, Bool.or_assoc] at h h1 h3
  rcases h with h | h | h | h
  · exact h1 (.inl h)
  · exact h1 (.inr (.inl h))
  · exact h3 (.inl h)
  · exact h4 h
theorem do_swap {env : PySem.Env} {ts vs : List Expr} {a b : Nat} {p q : Pos} (hk : env.scope.kind = .function) (h : swapB env.scope ts vs = true) : swappedStores [.Tuple ts a p] (.Tuple vs b q) env = pure (some (namesOn env.scope (lineOf ts) ts)) := by
  rw [swap_eq]
  have hb : env.blockKind = .function := by
    unfold Env.blockKind
    rw [hk]
    rfl
  unfold swapB at h
  simp only [Bool.and_eq_true, Bool.not_eq_true', Bool.or_eq_true, beq_iff_eq] at h
  obtain ⟨⟨⟨⟨⟨⟨h1, h2⟩, h3⟩, h4⟩, h5⟩, h6⟩, h7⟩ := h
  rw [if_neg, if_neg, if_neg, if_neg, if_neg]
  · rw [h6]; decide
  · rw [h5]; decide
  · rw [h4, h3]; simp
  · rw [h7]; decide
  · rw [hb, h2]
    rcases h1 with h1 | h1 <;> simp [h1]
def T.slot : T → Nat
  | .name i => i
  | .own i => i
  | .ix i _ => i
def T.isOwn : T → Bool
  | .own _ => true
  | _ => false
def T.isIx : T → Bool
  | .ix _ _ => true
  | _ => false
def ownsIn : List T → List V → List V
  | t :: ts, v :: vs => if t.isOwn then v :: ownsIn ts vs else ownsIn ts vs
  | _, _ => []
def rpM (c : Cfg) (HS : Hp) : VC.E → List T → RP (List V) (List D)
  | .cons a r, t :: ts => fun vs ds H0 H => ∃ v vr d dr, vs = v :: vr ∧ ds = d :: dr ∧ (if t.isOwn then mkP c HS v d H0 H ∧ v ∉ ownsIn ts vr else Rep c H0 v d) ∧ rpM c HS r ts vr dr H0 H
  | _, _ => fun vs ds _ _ => vs = [] ∧ ds = []
section
variable {X : Cx} {f : Cf} {t : Tab} {W : XK} {x y z : Expr} {es : List Expr} {a b c r e : VC.E} {pos : Pos} {i j : Nat} {n m : Str}
abbrev tM' (f : Cf) (t : Tab) (W : XK) (e : VC.E) (ts : List T) : TA := fun σ H Q => tM f W (rpM f.c H e ts) (evs t.Phi f.c.F e) σ H Q
theorem rpM_mono {c : Cfg} {HS HS' : Hp} (hs : ∀ p, NoObj HS' p → NoObj HS p) : ∀ {r : VC.E} {ts : List T} {vs : List V} {ds : List D} {H0 H : Hp}, rpM c HS' r ts vs ds H0 H → rpM c HS r ts vs ds H0 H := by
  intro r
  induction r with
  | cons a r _ ih =>
    intro ts vs ds H0 H h
    cases ts with
    | nil => exact h
    | cons tt ts =>
      obtain ⟨v, vr, d, dr, e1, e2, h1, h2⟩ := h
      refine ⟨v, vr, d, dr, e1, e2, ?_, ih h2⟩
      split at h1
      · rename_i q
        rw [if_pos q]
        obtain ⟨⟨p, e3, e4, e5⟩, h3⟩ := h1
        exact ⟨⟨p, e3, hs p e4, e5⟩, h3⟩
      · rename_i q
        rw [if_neg q]
        exact h1
  | _ =>
    intro ts vs ds H0 H h
    exact h
theorem rpM_owns {c : Cfg} {HS : Hp} : ∀ {r : VC.E} {ts : List T} {vs : List V} {ds : List D} {H0 H : Hp}, rpM c HS r ts vs ds H0 H → ∀ v ∈ ownsIn ts vs, ∃ p, v = .ref p ∧ NoObj HS p := by
  intro r
  induction r with
  | cons a r _ ih =>
    intro ts vs ds H0 H h v hv
    cases ts with
    | nil => cases hv
    | cons tt ts =>
      obtain ⟨w, vr, d, dr, rfl, rfl, h1, h2⟩ := h
      unfold ownsIn at hv
      split at hv
      · rename_i q
        rw [if_pos q] at h1
        rcases List.mem_cons.mp hv with rfl | hv
        · obtain ⟨p, e3, e4, _⟩ := h1.1
          exact ⟨p, e3, e4⟩
        · exact ih h2 v hv
      · exact ih h2 v hv
  | _ =>
    intro ts vs ds H0 H h v hv
    obtain ⟨rfl, _⟩ := h
    cases ts <;> cases hv
theorem m_nil : PA X [] (tM' f t W .nil []) := PAimp pa_nil fun σ H Q ⟨H0, ρ, st, rel, q⟩ => Fin.now (a := []) q rel.sub rel.pen ⟨rfl, rfl⟩
theorem m_cons {tt : T} {ts : List T} (hi : PE X x (if tt.isOwn then tMk f t W a else tE f t W a)) (nb : tt.isOwn = false → isBor a = false) (hr : PA X es (tM' f t W r ts)) (n : notStar x = true) : PA X (x :: es) (tM' f t W (.cons a r) (tt :: ts)) := by
  refine PAimp (pa_cons hi hr (star_cons n)) fun σ H Q ⟨H0, ρ, st, rel, q⟩ => ?_
  simp only [evs] at q
  have fin : ∀ {v : V} {H1 : Hp} {d : D} {st1 : PenSt} {G0 : Hp}, Grow f.c H0 H G0 H1 → Rel f.c G0 H1 σ ρ st1 → (if tt.isOwn then mkP f.c H v d G0 H1 else Rep f.c G0 v d) → Fin f W (rpM f.c H (.cons a r) (tt :: ts)) G0 H1 (M.bind (evs t.Phi f.c.F r ρ) (fun xs => .ret (d :: xs)) st1) Q →
      tM' f t W r ts σ H1 fun xs H2 => Q (v :: xs) H2 := fun {v H1 d st1 G0} g rel1 ra q1 => by
    refine ⟨G0, ρ, st1, rel1, q1.step rel1 fun vs H2 ds st2 G1 g2 rel2 rb q2 => ?_⟩
    have up : ∀ p, NoObj H1 p → NoObj H p := fun p h => g.noObj h
    refine Fin.now (a := d :: ds) q2 rel2.sub rel2.pen ⟨_, _, _, _, rfl, rfl, ?_, rpM_mono up rb⟩
    split at ra
    · rename_i ho
      rw [if_pos ho]
      obtain ⟨p, rfl, e2, ow⟩ := ra
      refine ⟨⟨p, rfl, e2, ow.grow g2⟩, fun hm => ?_⟩
      obtain ⟨p', e3, e4⟩ := rpM_owns rb _ hm
      cases e3
      obtain ⟨_, vs', _, e5, _, e6, _⟩ := ow
      cases e5
      exact e4.lst e6
    · rename_i ho
      rw [if_neg ho]
      exact ra.mono g2.fast
  by_cases ho : tt.isOwn = true
  · rw [if_pos ho]
    refine ⟨H0, ρ, st, rel, q.step rel fun v H1 d st1 G0 g rel1 ra q1 => fin g rel1 ?_ q1⟩
    rw [if_pos ho]
    exact ra
  · rw [if_neg ho]
    refine ⟨H0, ρ, st, rel, q.step rel fun v H1 d st1 G0 g rel1 ra q1 => fin g rel1 ?_ q1⟩
    rw [if_neg ho]
    exact rpE_hard (nb (by simpa using ho)) ra
/-- the stores -/
theorem parStore {HS E0 E H0 H : Hp} {st : PenSt} {D' : Ends} (hE : ∀ q, NoObj HS q → NoObj E q) : ∀ {ts : List T} {r : VC.E} {vs : List V} {ds : List D} {σ : L2.St} {ρ : Env}, ts.all (fun z => !z.isIx) = true → SRel f E0 E H0 H σ ρ st → rpM f.c HS r ts vs ds H0 H →
    (∀ (j : Nat) l q, ρ[j]? = some (.own l) → σ[j]? = some (some (.ref q)) → ¬ NoObj HS q ∨ V.ref q ∉ ownsIn ts vs) → FinS f W E0 E H0 D' (M.bind (parL t.Phi f.c.F ts ds ρ) (fun ρ' => .ret (.nx ρ')) st) → ∃ σ', setAllV σ (ts.map T.slot) vs = some σ' ∧ D'.nx σ' H
  | [], r, vs, ds, σ, ρ, _, rel, ra, _, q => by
    have : vs = [] ∧ ds = [] := by cases r <;> exact ra
    obtain ⟨rfl, rfl⟩ := this
    exact ⟨σ, rfl, FinS.nx q rel⟩
  | tt :: ts, r, vs, ds, σ, ρ, hi, rel, ra, inv, q => by
    cases r with
    | cons a r =>
      obtain ⟨v, vr, d, dr, rfl, rfl, h1, h2⟩ := ra
      simp only [List.all_cons, Bool.and_eq_true] at hi
      cases tt with
      | name i =>
        have h1 : Rep f.c H0 v d := by simpa [T.isOwn] using h1
        exact parStore (ts := ts) hE hi.2 (rel.setVal i h1) h2 (fun j l q e1 e2 => by
          rcases getset e1 with ⟨_, e⟩ | ⟨n, e1⟩
          · cases e
          · rcases getset e2 with ⟨e, _⟩ | ⟨_, e2⟩
            · exact absurd e n
            · exact inv j l q e1 e2) q
      | own i =>
        have h1 : mkP f.c HS v d H0 H ∧ v ∉ ownsIn ts vr := by simpa [T.isOwn] using h1
        obtain ⟨⟨p, rfl, hp, ow⟩, hm⟩ := h1
        cases d with
        | lst l =>
          refine parStore (ts := ts) hE hi.2 (rel.setOwn i ow (hE p hp) fun j m _ e1 e2 => ?_) h2 (fun j l q e1 e2 => ?_) q
          · rcases inv j m p e1 e2 with z | z
            · exact z hp
            · exact z (by unfold ownsIn; rw [if_pos (show (T.own i).isOwn = true from rfl)]; exact List.mem_cons_self)
          · rcases getset e2 with ⟨rfl, e⟩ | ⟨n, e2⟩
            · cases e
              exact .inr hm
            · rcases getset e1 with ⟨e, _⟩ | ⟨_, e1⟩
              · exact absurd e n
              · rcases inv j l q e1 e2 with z | z
                · exact .inl z
                · refine .inr fun hz => z ?_
                  unfold ownsIn
                  rw [if_pos (show (T.own i).isOwn = true from rfl)]
                  exact List.mem_cons_of_mem _ hz
        | _ => exact q.elim
      | ix i k => cases hi.1
    | _ =>
      obtain ⟨rfl, rfl⟩ := ra
      cases tt <;> exact q.elim
/-- names, all stored from the right -/
theorem S_swap {E0 E H0 H : Hp} {ρ : Env} {st : PenSt} {D' : Ends} {σ : L2.St} {ts : List T} (hi : ts.all (fun z => !z.isIx) = true) (rel : SRel f E0 E H0 H σ ρ st) (q : FinS f W E0 E H0 D' (exS t.Phi f.c.F (.par ts r) ρ st)) : tM' f t W r ts σ H fun vs H1 => ∃ σ', setAllV σ (ts.map T.slot) vs = some σ' ∧ D'.nx σ' H1 := by
  refine ⟨H0, ρ, st, rel.rel, FinS.step (k := fun ds => .bind (parL t.Phi f.c.F ts ds ρ) fun ρ' => .ret (.nx ρ')) q rel fun vs H1 ds st1 G0 g rel1 ra q1 => ?_⟩
  refine parStore (HS := H) (fun q hn => rel.gr.noObj hn) hi rel1 ra (fun j l q e1 e2 => .inl fun hn => ?_) q1
  · obtain ⟨p, vs', e3, e4, _⟩ := rel.own e1
    rw [e2] at e3
    cases e3
    exact hn.lst e4
theorem set2 {σ σ' : L2.St} {vs : List V} (h : setAllV σ [i, j] vs = some σ') : ∃ v w, vs = [v, w] ∧ σ' = (σ.set i (some v)).set j (some w) := by
  match vs, h with
  | [v, w], h =>
    cases h
    exact ⟨v, w, rfl, rfl⟩
theorem set3 {k : Nat} {σ σ' : L2.St} {vs : List V} (h : setAllV σ [i, j, k] vs = some σ') : ∃ v w u, vs = [v, w, u] ∧ σ' = ((σ.set i (some v)).set j (some w)).set k (some u) := by
  match vs, h with
  | [v, w, u], h =>
    cases h
    exact ⟨v, w, u, rfl, rfl⟩
/-- targets of any kind, from the left -/
def gTs (f : Cf) (t : Tab) (W : XK) (ts : List T) : TGs := fun vs σ H Q => ∃ E0 E H0 ρ st ds D', (∀ σ H, Ends.nx D' σ H → Q σ H) ∧ SRel f E0 E H0 H σ ρ st ∧ Reps f.c H0 vs ds ∧ FinS f W E0 E H0 D' (M.bind (parL t.Phi f.c.F ts ds ρ) (fun ρ' => .ret (.nx ρ')) st)
def tgT (X : Cx) (f : Cf) (t : Tab) : T → Expr → Prop
  | .name i, .Name x _ => NameOk X i x
  | .ix i k, .Subscript (.Name x _) y _ => varB X.N X.env.scope i x = true ∧ notSlice y = true ∧ chk X.N f.c.used t k X.env.scope y = true
  | _, _ => False
theorem pgs_T (o : OkS X f t W) : ∀ {ts : List T} {es : List Expr}, ts.length = es.length → (∀ p ∈ ts.zip es, tgT X f t p.1 p.2) → PGs X es (gTs f t W ts) ∧ (assignEach es X.env).length = ts.length ∧ (assignEach es X.env).findIdx? (·.1) = none
  | [], [], _, _ => by
    refine ⟨PGsimp pgs_nil fun vs σ H Q q => ?_, rfl, rfl⟩
    obtain ⟨E0, E, H0, ρ, st, ds, D', hQ, rel, rs, q⟩ := q
    cases rs with
    | nil => exact ⟨rfl, hQ _ _ (FinS.nx q rel)⟩
    | cons _ _ => exact q.elim
  | tt :: ts, e :: es, hl, h => by
    have h1 := h (tt, e) (by simp)
    obtain ⟨g1, g2, g3⟩ := pgs_T o (ts := ts) (es := es) (by simpa using hl) fun p m => h p (by simp [m])
    cases tt with
    | name i =>
      cases e <;> try (exact h1.elim)
      rename_i x px
      have h1 : NameOk X i x := h1
      refine ⟨PGsimp (pgs_cons (pg_name o.ok.nd h1.ix h1.loc h1.fn) g1 rfl) fun vs σ H Q q => ?_, ?_, ?_⟩
      · obtain ⟨E0, E, H0, ρ, st, ds, D', hQ, rel, rs, q⟩ := q
        cases rs with
        | nil => exact (show False from q).elim
        | cons r rs => exact ⟨_, _, rfl, E0, E, H0, _, st, _, D', hQ, rel.setVal i r, rs, q⟩
      · show (assignEach es X.env).length + 1 = _
        rw [g2]
        rfl
      · show List.findIdx? _ ((false, assign (.Name x px) X.env) :: assignEach es X.env) = none
        rw [List.findIdx?_cons, g3]
        rfl
    | own i => cases e <;> exact h1.elim
    | ix i k =>
      cases e <;> try (exact h1.elim)
      rename_i o' y px
      cases o' <;> try (exact h1.elim)
      rename_i x px'
      obtain ⟨hv, ns, hk⟩ : varB X.N X.env.scope i x = true ∧ notSlice y = true ∧ chk X.N f.c.used t k X.env.scope y = true := h1
      refine ⟨PGsimp (pgs_cons (pg_sub (varB_pe rfl hv) ((good k).pe o.ok hk) set_list (by intro v; cases y <;> first | rfl | cases ns)) g1 rfl) fun vs σ H Q q => ?_, ?_, ?_⟩
      · obtain ⟨E0, E, H0, ρ, st, ds, D', hQ, rel, rs, q⟩ := q
        cases rs with
        | nil => exact (show False from q).elim
        | @cons v d vr dr rv rs =>
          simp only [parL, M.bind_bind] at q
          obtain ⟨l, e1, q⟩ := bind_own q
          obtain ⟨p, ws, e2, h1, h2, h3, z, rr, h4⟩ := rel.own e1
          refine ⟨v, vr, rfl, _, e2, H0, ρ, st, rel.rel, q.step rel fun u H2 dk st2 G1 g2 rel2 rk q2 => ?_⟩
          obtain ⟨p', ws', e2', h1', _, _, z', rr', _⟩ := rel2.own e1
          rw [e2] at e2'
          cases e2'
          cases dk with
          | int zz =>
            simp only [M.bind_bind] at q2
            obtain ⟨jj, ej, q3⟩ := q2.some
            refine ⟨p, ws', zz, jj, rfl, soft_int (rpE_soft rk), h1', by rw [rr'.length]; exact ej, ?_⟩
            exact ⟨E0, E, G1, _, st2, dr, D', hQ, (rel2.change e1 e2 (by rw [List.length_set]; exact z') (rr'.set (rv.mono g2.fast) jj)).1, rs.mono g2.fast, q3⟩
          | _ => exact q2.elim
      · show (assignEach es X.env).length + 1 = _
        rw [g2]
        rfl
      · show List.findIdx? _ ((false, assign (.Subscript (.Name x px') y px) X.env) :: assignEach es X.env) = none
        rw [List.findIdx?_cons, g3]
        rfl
  | [], _ :: _, hl, _ => by cases hl
  | _ :: _, [], hl, _ => by cases hl
theorem S_parB {tes ves : List Expr} {k1 k2 : Nat} {p1 p2 : Pos} {ts : List T} (o : OkS X f t W) (hl : ts.length = tes.length) (hn : elen r = ts.length) (hg : ∀ p ∈ ts.zip tes, tgT X f t p.1 p.2) (hz : elen r ≤ 1000) (hr : hards r = true) (hp : plainB X.env.scope tes ves = true) (h : chks X.N f.c.used t r X.env.scope ves = true) :
    PS X (.Assign [.Tuple tes k1 p1] (.Tuple ves k2 p2) pos) (tS f t W (.par ts r)) := by
  obtain ⟨g1, g2, g3⟩ := pgs_T o hl hg
  refine PSimp (ps_asg (pe_tup ((good r).pa o.ok h)) (pg_tup o.ok.calm g1 g2 g3) rfl (plain_swap hp) rfl) fun D' σ H ⟨E0, E, H0, ρ, st, rel, q⟩ => ?_
  refine ⟨H0, ρ, st, rel.rel, FinS.step (k := fun ds => .bind (parL t.Phi f.c.F ts ds ρ) fun ρ' => .ret (.nx ρ')) q rel fun vs H1 ds st1 G0 g rel1 ra q1 => ?_⟩
  have hlen : vs.length ≤ sizeLine := size_le (by rw [rpL_len ra]; omega)
  refine ⟨hlen, fun p np => ⟨p, vs, rfl, .of upd_same, ?_, ?_⟩⟩
  · rw [rpL_len ra, hn]
  · exact ⟨E0, E, G0, ρ, st1, ds, D', fun _ _ h => h, rel1.grow (.loose rel1.rel.sub np) (rel1.rel.pen.loose np), rpL_hard hr ra, q1⟩
/-- names, stored from the left -/
def gNm (ts : List T) : TGs := fun vs σ H Q => ∃ σ', setAllV σ (ts.map T.slot) vs = some σ' ∧ Q σ' H
theorem pgs_N (o : OkS X f t W) : ∀ {ts : List T} {es : List Expr}, ts.length = es.length → (∀ p ∈ ts.zip es, ∃ n q, p.2 = Expr.Name n q ∧ NameOk X p.1.slot n) → PGs X es (gNm ts) ∧ (assignEach es X.env).length = ts.length ∧ (assignEach es X.env).findIdx? (·.1) = none
  | [], [], _, _ => by
    refine ⟨PGsimp pgs_nil fun vs σ H Q q => ?_, rfl, rfl⟩
    obtain ⟨σ', e, q⟩ := q
    cases vs with
    | nil =>
      cases e
      exact ⟨rfl, q⟩
    | cons _ _ => cases e
  | tt :: ts, e :: es, hl, h => by
    obtain ⟨x, px, e1, h1⟩ := h (tt, e) (by simp)
    obtain ⟨g1, g2, g3⟩ := pgs_N o (ts := ts) (es := es) (by simpa using hl) fun p m => h p (by simp [m])
    have e1 : e = Expr.Name x px := e1
    subst e1
    refine ⟨PGsimp (pgs_cons (pg_name o.ok.nd h1.ix h1.loc h1.fn) g1 rfl) fun vs σ H Q q => ?_, ?_, ?_⟩
    · obtain ⟨σ', e, q⟩ := q
      cases vs with
      | nil => cases e
      | cons v vs => exact ⟨_, _, rfl, σ', e, q⟩
    · show (assignEach es X.env).length + 1 = _
      rw [g2]
      rfl
    · show List.findIdx? _ ((false, assign (.Name x px) X.env) :: assignEach es X.env) = none
      rw [List.findIdx?_cons, g3]
      rfl
  | [], _ :: _, hl, _ => by cases hl
  | _ :: _, [], hl, _ => by cases hl
theorem rpM_len {c : Cfg} {HS : Hp} : ∀ {r : VC.E} {ts : List T} {vs : List V} {ds : List D} {H0 H : Hp}, rpM c HS r ts vs ds H0 H → vs.length ≤ ts.length := by
  intro r
  induction r with
  | cons a r _ ih =>
    intro ts vs ds H0 H h
    cases ts with
    | nil =>
      obtain ⟨rfl, _⟩ := h
      exact Nat.le_refl _
    | cons tt ts =>
      obtain ⟨v, vr, d, dr, rfl, rfl, _, h2⟩ := h
      have := ih h2
      simp only [List.length_cons]
      omega
  | _ =>
    intro ts vs ds H0 H h
    obtain ⟨rfl, _⟩ := h
    exact Nat.zero_le _
theorem rpM_grow {c : Cfg} {HS : Hp} {H0 H H0' H' : Hp} (g : Grow c H0 H H0' H') : ∀ {r : VC.E} {ts : List T} {vs : List V} {ds : List D}, rpM c HS r ts vs ds H0 H → rpM c HS r ts vs ds H0' H' := by
  intro r
  induction r with
  | cons a r _ ih =>
    intro ts vs ds h
    cases ts with
    | nil => exact h
    | cons tt ts =>
      obtain ⟨v, vr, d, dr, rfl, rfl, h1, h2⟩ := h
      refine ⟨v, vr, d, dr, rfl, rfl, ?_, ih h2⟩
      split at h1
      · rename_i q
        rw [if_pos q]
        obtain ⟨⟨p, e1, e2, e3⟩, e4⟩ := h1
        exact ⟨⟨p, e1, e2, e3.grow g⟩, e4⟩
      · rename_i q
        rw [if_neg q]
        exact h1.mono g.fast
  | _ =>
    intro ts vs ds h
    exact h
/-- names, some of them fresh lists, from the left -/
theorem S_parO {tes ves : List Expr} {k1 k2 : Nat} {p1 p2 : Pos} {ts : List T} (o : OkS X f t W) (hl : ts.length = tes.length) (hg : ∀ p ∈ ts.zip tes, ∃ n q, p.2 = Expr.Name n q ∧ NameOk X p.1.slot n) (hz : ts.length ≤ 1000) (hi : ts.all (fun z => !z.isIx) = true) (hp : plainB X.env.scope tes ves = true) (ha : PA X ves (tM' f t W r ts)) :
    PS X (.Assign [.Tuple tes k1 p1] (.Tuple ves k2 p2) pos) (tS f t W (.par ts r)) := by
  obtain ⟨g1, g2, g3⟩ := pgs_N o hl hg
  refine PSimp (ps_asg (pe_tup ha) (pg_tup o.ok.calm g1 g2 g3) rfl (plain_swap hp) rfl) fun D' σ H ⟨E0, E, H0, ρ, st, rel, q⟩ => ?_
  refine ⟨H0, ρ, st, rel.rel, FinS.step (k := fun ds => .bind (parL t.Phi f.c.F ts ds ρ) fun ρ' => .ret (.nx ρ')) q rel fun vs H1 ds st1 G0 g rel1 ra q1 => ?_⟩
  have hlen : vs.length ≤ sizeLine := size_le (by have := rpM_len ra; omega)
  refine ⟨hlen, fun p np => ?_⟩
  have gl : Grow f.c G0 H1 G0 (upd H1 p (.tup vs)) := .loose rel1.rel.sub np
  obtain ⟨σ', e, qq⟩ := parStore (HS := H) (fun q hn => rel.gr.noObj hn) hi (rel1.grow gl (rel1.rel.pen.loose np)) (rpM_grow gl ra) (fun j l q e1 e2 => .inl fun hn => by
    obtain ⟨p', vs', e3, e4, _⟩ := rel.own e1
    rw [e2] at e3
    cases e3
    exact hn.lst e4) q1
  refine ⟨p, vs, rfl, .of upd_same, ?_, σ', e, qq⟩
  rw [setAllV_len e, List.length_map]
end
end VC
set_option Elab.async false
set_option linter.all false
set_option maxRecDepth 100000
set_option maxHeartbeats 1000000
/-! VCr: a checked suite is what the evaluator says. -/
namespace VC
open PySem PySem.Spec PyProof.Rows L2
def notTup : Expr → Bool
  | .Tuple .. => false
  | _ => true
section
variable (t : Tab) (N : List Str) (used : Nat → Bool)
/-- targets of a for, of an unpacking, in a def's own suite -/
def tgLoc (sc : Scope) : Tg → Expr → Bool
  | .name i, .Name x _ => locB N sc i x
  | .tup is, .Tuple es _ _ => is.length == es.length && (is.zip es).all fun p => match p.2 with
    | .Name x _ => locB N sc p.1 x
    | _ => false
  | _, _ => false
def itB (sc : Scope) (k : VC.It) (r : VC.E) (tg : Tg) (tgt iter : Expr) : Bool := hards r && (match k with
  | .seq => (match r with | .cons a .nil => chk N used t a sc iter | _ => false)
  | .range => (match iter with | .Call (.Name id _) (a :: as) [] _ => decide (as.length ≤ 1) && glB sc id && id == "range" && (a :: as).all notStar && chks N used t r sc (a :: as) | _ => false)
  | .zip => (match r, tg, tgt, iter with | .cons _ (.cons _ .nil), .tup _, .Tuple _ _ _, .Call (.Name id _) [a, b] [] _ => glB sc id && id == "zip" && notStar a && notStar b && chks N used t r sc [a, b] | _, _, _, _ => false)
  | .enum => false)
/-- arguments, some of them fresh lists -/
def chkm (sc : Scope) : VC.E → List T → List Expr → Bool
  | .nil, [], [] => true
  | .cons a r, tt :: ts, x :: xs => notStar x && (if tt.isOwn then mkB a else !isBor a) && chk N used t a sc x && chkm sc r ts xs
  | _, _, _ => false
def tgtB (sc : Scope) : T → Expr → Bool
  | .name i, .Name x _ => locB N sc i x
  | .ix i k, .Subscript (.Name x _) y _ => varB N sc i x && notSlice y && chk N used t k sc y
  | _, _ => false
def nameB (sc : Scope) : T → Expr → Bool
  | .name i, .Name x _ => N[i]? == some x && sc.names.lookup x == some .local
  | .own i, .Name x _ => N[i]? == some x && sc.names.lookup x == some .local
  | _, _ => false
def nameO (sc : Scope) : T → Expr → Bool
  | .name i, .Name x _ => locB N sc i x
  | .own i, .Name x _ => locB N sc i x
  | _, _ => false
def raiseB : Nat → VC.E → Scope → Expr → Bool := fun n r sc x => match x with
  | .Call (.Name id _) (a :: as) [] _ => t.hasE n && glB sc id && id == Str.ofString (t.en n) && !(id == "__debug__") && hards r && (a :: as).all notStar && decide (as.length ≤ 900) && decide (as.length + 1 = t.ef n) && chks N used t r sc (a :: as)
  | _ => false
mutual
def chkT : S → Scope → Stmt → Bool
  | .set i e, sc, st => match st with | .Assign [.Name n _] x _ => locB N sc i n && !isBor e && !isG e && chk N used t e sc x | _ => false
  | .own i e, sc, st => match st with | .Assign [.Name n _] x _ => locB N sc i n && mkB e && chk N used t e sc x | _ => false
  | .par ts r, sc, st => match st with
    | .Assign [.Tuple tes _ _] (.Tuple ves _ _) _ =>
      (decide (ts.length = tes.length) && decide (elen r = ts.length) && (ts.zip tes).all (fun p => tgtB t N used sc p.1 p.2) && decide (elen r ≤ 1000) && hards r && plainB sc tes ves && chks N used t r sc ves) ||
      (swapB sc tes ves && (ts.zip tes).all (fun p => nameB N sc p.1 p.2) && decide (ts.map T.slot).Nodup && decide (ts.length = tes.length) && chkm t N used sc r ts ves) ||
      (plainB sc tes ves && (ts.zip tes).all (fun p => nameO N sc p.1 p.2) && decide (ts.length ≤ 1000) && decide (ts.length = tes.length) && chkm t N used sc r ts ves)
    | _ => false
  | .unpack is e, sc, st => match st with | .Assign [.Tuple es k p] x _ => tgLoc N sc (.tup is) (.Tuple es k p) && !isBor e && notTup x && chk N used t e sc x | _ => false
  | .aug _ _ _, _, _ => false
  | .setF i g e, sc, st => match st with | .Assign [.Attribute (.Name n _) id _] x _ => varB N sc i n && id == Str.ofString g && !isBor e && notTup x && chk N used t e sc x | _ => false
  | .ownCall i f r, sc, st => match st with | .Assign [.Name n _] (.Call (.Name id _) (a :: as) [] _) _ => locB N sc i n && t.hasF f && glB sc id && id == Str.ofString (t.nm f) && !(id == "__debug__") && hards r && (a :: as).all notStar && chks N used t r sc (a :: as) | _ => false
  | .setIx i k e, sc, st => match st with | .Assign [.Subscript (.Name n _) y _] x _ => varB N sc i n && !isBor e && notTup x && notSlice y && chk N used t e sc x && chk N used t k sc y | _ => false
  | .append i e, sc, st => match st with | .Expr (.Call (.Attribute (.Name n _) m p2) [x] [] cpos) _ => m == "append" && varB N sc i n && notStar x && !isBor e && (p2.endLine == cpos.line) && chk N used t e sc x | _ => false
  | .pop j i, sc, st => match st with | .Assign [.Name m _] (.Call (.Attribute (.Name n _) mm p2) [] [] cpos) _ => mm == "pop" && locB N sc j m && varB N sc i n && (p2.endLine == cpos.line) | _ => false
  | .appendPop i j e, sc, st => match st with
    | .Expr (.Call (.Attribute (.Name n _) m1 p2) [.Call (.Attribute (.Name m _) m2 p4) [x] [] dpos] [] cpos) _ => m1 == "append" && m2 == "pop" && varB N sc i n && varB N sc j m && notStar x && (p2.endLine == cpos.line) && (p4.endLine == dpos.line) && chk N used t e sc x
    | _ => false
  | .expr e, sc, st => match st with | .Expr x _ => notComp e && chk N used t e sc x | _ => false
  | .ite c a b, sc, st => match st with | .If x xs ys _ => chk N used t c sc x && chkS a sc xs && chkS b sc ys | _ => false
  | .for tg k r b, sc, st => match st with | .For tgt x xs [] _ => tgLoc N sc tg tgt && itB t N used sc k r tg tgt x && chkS b sc xs | _ => false
  | .while c b, sc, st => match st with | .While x xs [] _ => chk N used t c sc x && chkS b sc xs | _ => false
  | .ret e, sc, st => match st with | .Return (some x) _ => !isBor e && chk N used t e sc x | _ => false
  | .raise n r, sc, st => match st with | .Raise (some x) none _ => raiseB t N used n r sc x | _ => false
  | .brk, _, st => match st with | .Break _ => true | _ => false
  | .cnt, _, st => match st with | .Continue _ => true | _ => false
  | _, _, _ => false
def chkS : S → Scope → List Stmt → Bool
  | .skip, _, sts => sts.isEmpty
  | .seq (.freeze _) b, sc, sts => chkS b sc sts
  | .seq (.forget _) b, sc, sts => chkS b sc sts
  | .seq a b, sc, sts => match sts with | st :: rest => chkT a sc st && chkS b sc rest | [] => false
  | _, _, _ => false
end
end
end VC
set_option Elab.async false
set_option linter.all false
set_option maxRecDepth 100000
set_option maxHeartbeats 1000000
/-! VCs: a checked suite is what the evaluator says (2). -/
namespace VC
open PySem PySem.Spec PyProof.Rows L2
def rpX (f : Cf) (n : Nat) : RP (Value × Option Addr) (List D) := fun cd ds H0 H => ErrAt f.c H0 H f.ec ⟨n, ds⟩ cd.1 cd.2
def tR (f : Cf) (t : Tab) (W : XK) (n : Nat) (r : VC.E) : L2.St → Hp → XK → Prop := fun σ H Q => tM f W (rpX f n) (evs t.Phi f.c.F r) σ H fun cd H' => Q cd.1 cd.2 H'
structure OkR (X : Cx) (f : Cf) (t : Tab) (W : XK) : Prop where
  okS : OkS X f t W
  tk : Takes X (fun cls d _ H => W cls d H)
  mkx : ∀ n r x, raiseB t X.N f.c.used n r X.env.scope x = true → PMk X x (tR f t W n r)
section
variable {X : Cx} {f : Cf} {t : Tab} {W : XK} {x y z : Expr} {es : List Expr} {a b c r e : VC.E} {pos : Pos} {i j : Nat} {n m : Str}
theorem S_raise {n : Nat} (o : OkR X f t W) (h : raiseB t X.N f.c.used n r X.env.scope x = true) : PS X (.Raise (some x) none pos) (tS f t W (.raise n r)) :=
  PSimp (ps_raise o.okS.ok.calm o.tk (o.mkx n r x h)) fun D σ H ⟨E0, E, H0, ρ, st, rel, q⟩ => by
    refine ⟨H0, ρ, st, rel.rel, FinS.step (k := fun l => M.err ⟨n, l⟩) q rel fun cd H1 ds st1 G0 g rel1 ra q1 => ?_⟩
    exact q1 cd.1 cd.2 G0 H1 rel1.gr rel1.rel.pen ra
theorem tgLoc_ok (o : OkS X f t W) {tg : Tg} (h : tgLoc X.N X.env.scope tg x = true) : tgOk X tg x := by
  unfold tgLoc at h
  split at h
  · exact locB_ok o h
  · simp only [Bool.and_eq_true, beq_iff_eq, List.all_eq_true] at h
    refine ⟨h.1, fun p hp => ?_⟩
    have := h.2 p hp
    split at this
    · rename_i y q e
      rw [e]
      exact locB_ok o this
    · cases this
  · cases h
theorem itB_ok (o : OkS X f t W) {k : VC.It} {tg : Tg} {tgt : Expr} (h : itB t X.N f.c.used X.env.scope k r tg tgt x = true) : PI X tgt x (iT f t W true k r) ∧ ∀ v, foldedSetIterable x X.env v = pure v := by
  unfold itB at h
  simp only [Bool.and_eq_true] at h
  obtain ⟨hh, h6⟩ := h
  have o := o.ok
  cases k with
  | seq =>
    simp only at h6
    split at h6
    · simp only [hards, Bool.and_eq_true, Bool.not_eq_true'] at hh
      exact ⟨i_seq o.hK ((good _).pe o h6) (fun _ => hh.1), fold_ok fun es k p e => by rw [e, chk_set] at h6; cases h6⟩
    · cases h6
  | range =>
    simp only at h6
    split at h6
    · simp only [Bool.and_eq_true, beq_iff_eq, decide_eq_true_eq] at h6
      obtain ⟨⟨⟨⟨q1, q2⟩, q3⟩, q4⟩, q5⟩ := h6
      exact ⟨i_range o (glB_ok q2) q3 (by rw [(good _).ln q5]; rfl) q1 q4 ((good _).pa o q5), fun _ => rfl⟩
    · cases h6
  | zip =>
    simp only at h6
    split at h6
    · simp only [Bool.and_eq_true, beq_iff_eq] at h6
      obtain ⟨⟨⟨⟨q1, rfl⟩, q3⟩, q4⟩, q5⟩ := h6
      simp only [hards, Bool.and_eq_true, Bool.not_eq_true'] at hh
      exact ⟨i_zip o (glB_ok q1) q3 q4 (fun _ => ⟨hh.1, hh.2.1⟩) ((good _).pa o q5), fun _ => rfl⟩
    · cases h6
  | enum => cases h6
theorem chkm_ok (o : OkS X f t W) : ∀ {r : VC.E} {ts : List T} {xs : List Expr}, chkm t X.N f.c.used X.env.scope r ts xs = true → PA X xs (tM' f t W r ts) ∧ xs.length = ts.length := by
  intro r
  induction r with
  | nil =>
    intro ts xs h
    cases ts <;> cases xs <;> first | cases h | skip
    exact ⟨m_nil, rfl⟩
  | cons a r _ ih =>
    intro ts xs h
    cases ts <;> cases xs <;> first | (cases h; done) | skip
    rename_i tt ts x xs
    simp only [chkm, Bool.and_eq_true] at h
    obtain ⟨⟨⟨h1, h2⟩, h3⟩, h4⟩ := h
    obtain ⟨g1, g2⟩ := ih h4
    refine ⟨m_cons ?_ (fun e => ?_) g1 h1, by rw [List.length_cons, List.length_cons, g2]⟩
    · split
      · rename_i q
        rw [if_pos q] at h2
        exact (mk_ok o h2 h3).1
      · exact (good _).pe o.ok h3
    · rw [e] at h2
      simpa using h2
  | _ =>
    intro ts xs h
    cases ts <;> cases xs <;> cases h
theorem nameB_ok {tt : T} {x : Expr} (h : nameB X.N X.env.scope tt x = true) : ∃ n p, x = Expr.Name n p ∧ X.N[tt.slot]? = some n ∧ X.env.scope.names.lookup n = some .local ∧ tt.isIx = false := by
  unfold nameB at h
  split at h
  · simp only [Bool.and_eq_true, beq_iff_eq] at h
    exact ⟨_, _, rfl, h.1, h.2, rfl⟩
  · simp only [Bool.and_eq_true, beq_iff_eq] at h
    exact ⟨_, _, rfl, h.1, h.2, rfl⟩
  · cases h
theorem namesOn_all {sc : Scope} {line : Nat} : ∀ {ts : List Expr} {ns : List Str}, (namesOn sc line ts).length = ts.length → (∀ (i : Nat) (e : Expr), ts[i]? = some e → ∃ n p, e = Expr.Name n p ∧ ns[i]? = some n) → ns.length = ts.length → namesOn sc line ts = ns := by
  intro ts
  induction ts with
  | nil =>
    intro ns _ _ h
    cases ns with
    | nil => rfl
    | cons _ _ => cases h
  | cons e ts ih =>
    intro ns hl h h2
    cases ns with
    | nil => cases h2
    | cons n ns =>
      obtain ⟨n', p, rfl, e2⟩ := h 0 e rfl
      simp only [List.getElem?_cons_zero, Option.some.injEq] at e2
      subst e2
      have key : namesOn sc line (.Name n p :: ts) = if (sc.names.lookup n == some .local && p.line == line) = true then n :: namesOn sc line ts else namesOn sc line ts := by
        by_cases hc : (sc.names.lookup n == some .local && p.line == line) = true
        · rw [if_pos hc]
          unfold namesOn
          rw [List.filterMap_cons]
          simp only [hc, if_true]
        · rw [if_neg hc]
          unfold namesOn
          rw [List.filterMap_cons]
          simp only [if_neg hc]
      have le : (namesOn sc line ts).length ≤ ts.length := List.length_filterMap_le _ _
      rw [key] at hl ⊢
      split at hl
      · rename_i hc
        rw [if_pos hc]
        simp only [List.length_cons, Nat.add_right_cancel_iff] at hl
        rw [ih (ns := ns) hl (fun i e he => h (i + 1) e (by simpa using he)) (by simpa using h2)]
      · simp only [List.length_cons] at hl
        omega
theorem S_par {st : Stmt} {ts : List T} (o : OkS X f t W) (h : chkT t X.N f.c.used (.par ts r) X.env.scope st = true) : PS X st (tS f t W (.par ts r)) := by
  unfold chkT at h
  split at h
  · rename_i tes k1 p1 ves k2 p2 pos
    rw [Bool.or_eq_true, Bool.or_eq_true] at h
    rcases h with (h | h) | h
    · simp only [Bool.and_eq_true, decide_eq_true_eq, List.all_eq_true] at h
      obtain ⟨⟨⟨⟨⟨⟨h1, h2⟩, h3⟩, h4⟩, h5⟩, h6⟩, h7⟩ := h
      refine S_parB o h1 h2 (fun p hp => ?_) h4 h5 h6 h7
      have hq := h3 p hp
      obtain ⟨tt, e⟩ := p
      simp only at hq ⊢
      cases tt with
      | name i =>
        cases e <;> simp only [tgtB, Bool.false_eq_true] at hq
        exact locB_ok o hq
      | own i => cases e <;> simp only [tgtB, Bool.false_eq_true] at hq
      | ix i k =>
        cases e <;> try (simp only [tgtB, Bool.false_eq_true] at hq; done)
        rename_i a b c
        cases a <;> simp only [tgtB, Bool.false_eq_true, Bool.and_eq_true] at hq
        exact ⟨hq.1.1, hq.1.2, hq.2⟩
    · simp only [Bool.and_eq_true, decide_eq_true_eq, List.all_eq_true] at h
      obtain ⟨⟨⟨⟨h1, h2⟩, h3⟩, h4⟩, h5⟩ := h
      obtain ⟨g1, g2⟩ := chkm_ok o h5
      have hi : ts.all (fun z => !z.isIx) = true := by
        rw [List.all_eq_true]
        intro tt htt
        obtain ⟨i, hi, rfl⟩ := List.mem_iff_getElem.mp htt
        obtain ⟨_, _, _, _, _, e⟩ := nameB_ok (h2 (ts[i], tes[i]'(by omega)) (List.mem_iff_getElem.mpr ⟨i, by rw [List.length_zip]; omega, by rw [List.getElem_zip]⟩))
        rw [e]
        rfl
      have hsw := do_swap (a := k1) (b := k2) (p := p1) (q := p2) o.kind h1
      unfold swapB at h1
      simp only [Bool.and_eq_true, Bool.or_eq_true, beq_iff_eq] at h1
      have hlen := h1.1.1.1.1.1.1
      have hnl := h1.1.1.1.1.2
      rcases hlen with hlen | hlen
      · match tes, ts, ves, hlen, h4, g2 with
        | [e1, e2], [t1, t2], [v1, v2], _, _, _ =>
          obtain ⟨n1, q1, rfl, a1, b1, _⟩ := nameB_ok (h2 (t1, e1) (by simp))
          obtain ⟨n2, q2, rfl, a2, b2, _⟩ := nameB_ok (h2 (t2, e2) (by simp))
          have hne : t1.slot ≠ t2.slot := by
            simp only [List.map_cons, List.map_nil, List.nodup_cons, List.mem_singleton] at h3
            exact h3.1
          have hns : namesOn X.env.scope (lineOf [Expr.Name n1 q1, Expr.Name n2 q2]) [Expr.Name n1 q1, Expr.Name n2 q2] = [n1, n2] := namesOn_all hnl (fun i e he => by
            match i, he with
            | 0, he => cases he; exact ⟨_, _, rfl, rfl⟩
            | 1, he => cases he; exact ⟨_, _, rfl, rfl⟩) rfl
          rw [hns] at hsw
          refine PSimp (ps_par o.ok.calm o.ok.nd a1 a2 hne b1 b2 g1 hsw rfl) fun D σ H ⟨E0, E, H0, ρ, st, rel, q⟩ => ?_
          obtain ⟨H0', ρ', st', rel', q'⟩ := S_swap hi rel q
          refine ⟨H0', ρ', st', rel', q'.imp fun vs H1 ⟨σ', e, qq⟩ => ?_⟩
          obtain ⟨v, w, rfl, rfl⟩ := set2 e
          exact ⟨v, w, rfl, qq⟩
      · match tes, ts, ves, hlen, h4, g2 with
        | [e1, e2, e3], [t1, t2, t3], [v1, v2, v3], _, _, _ =>
          obtain ⟨n1, q1, rfl, a1, b1, _⟩ := nameB_ok (h2 (t1, e1) (by simp))
          obtain ⟨n2, q2, rfl, a2, b2, _⟩ := nameB_ok (h2 (t2, e2) (by simp))
          obtain ⟨n3, q3, rfl, a3, b3, _⟩ := nameB_ok (h2 (t3, e3) (by simp))
          simp only [List.map_cons, List.map_nil, List.nodup_cons, List.mem_cons, List.not_mem_nil, or_false, not_or] at h3
          have hns : namesOn X.env.scope (lineOf [Expr.Name n1 q1, Expr.Name n2 q2, Expr.Name n3 q3]) [Expr.Name n1 q1, Expr.Name n2 q2, Expr.Name n3 q3] = [n1, n2, n3] := namesOn_all hnl (fun i e he => by
            match i, he with
            | 0, he => cases he; exact ⟨_, _, rfl, rfl⟩
            | 1, he => cases he; exact ⟨_, _, rfl, rfl⟩
            | 2, he => cases he; exact ⟨_, _, rfl, rfl⟩) rfl
          rw [hns] at hsw
          refine PSimp (ps_par3 o.ok.calm o.ok.nd a1 a2 a3 h3.1.1 h3.1.2 h3.2.1 b1 b2 b3 g1 hsw rfl) fun D σ H ⟨E0, E, H0, ρ, st, rel, q⟩ => ?_
          obtain ⟨H0', ρ', st', rel', q'⟩ := S_swap hi rel q
          refine ⟨H0', ρ', st', rel', q'.imp fun vs H1 ⟨σ', e, qq⟩ => ?_⟩
          obtain ⟨v, w, u, rfl, rfl⟩ := set3 e
          exact ⟨v, w, u, rfl, qq⟩
    · simp only [Bool.and_eq_true, decide_eq_true_eq, List.all_eq_true] at h
      obtain ⟨⟨⟨⟨h1, h2⟩, h3⟩, h4⟩, h5⟩ := h
      obtain ⟨g1, _⟩ := chkm_ok o h5
      have key : ∀ p ∈ ts.zip tes, (∃ n q, p.2 = Expr.Name n q ∧ NameOk X p.1.slot n) ∧ p.1.isIx = false := fun p hp => by
        have hq := h2 p hp
        obtain ⟨tt, e⟩ := p
        simp only at hq ⊢
        cases tt with
        | ix i k => cases e <;> simp only [nameO, Bool.false_eq_true] at hq
        | _ =>
          cases e <;> simp only [nameO, Bool.false_eq_true] at hq
          exact ⟨⟨_, _, rfl, locB_ok o hq⟩, rfl⟩
      refine S_parO o h4 (fun p hp => (key p hp).1) h3 ?_ h1 g1
      rw [List.all_eq_true]
      intro tt htt
      obtain ⟨i, hi, rfl⟩ := List.mem_iff_getElem.mp htt
      rw [(key (ts[i], tes[i]'(by omega)) (List.mem_iff_getElem.mpr ⟨i, by rw [List.length_zip]; omega, by rw [List.getElem_zip]⟩)).2]
      rfl
  · cases h
theorem nt_ok (h : notTup x = true) : ∀ a b c, x ≠ .Tuple a b c := fun a b c z => by
  subst z
  cases h
theorem suite : ∀ s : S, (∀ {X : Cx} {W : XK} {st : Stmt}, OkR X f t W → chkT t X.N f.c.used s X.env.scope st = true → PS X st (tS f t W s)) ∧
    ∀ {X : Cx} {W : XK} {sts : List Stmt}, OkR X f t W → chkS t X.N f.c.used s X.env.scope sts = true → PSs X sts (tS f t W s) := by
  intro s
  induction s with
  | skip =>
    refine ⟨fun o h => ?_, fun o h => ?_⟩
    · unfold chkT at h
      cases h
    · unfold chkS at h
      simp only [List.isEmpty_iff] at h
      subst h
      exact Ss_nil
  | seq a b iha ihb =>
    refine ⟨fun o h => ?_, fun o h => ?_⟩
    · unfold chkT at h
      cases h
    · unfold chkS at h
      split at h
      · cases ‹S.seq a b = _›
      · cases ‹S.seq a b = _›
        exact Ss_freeze (ihb.2 o h)
      · cases ‹S.seq a b = _›
        exact Ss_forget (ihb.2 o h)
      · cases ‹S.seq a b = _›
        split at h
        · simp only [Bool.and_eq_true] at h
          exact Ss_cons (iha.1 o h.1) (ihb.2 o h.2)
        · cases h
      · cases h
  | set i e =>
    refine ⟨fun o h => ?_, fun o h => by unfold chkS at h; cases h⟩
    unfold chkT at h
    split at h
    · simp only [Bool.and_eq_true, Bool.not_eq_true'] at h
      exact S_set o.okS (locB_ok o.okS h.1.1.1) h.1.1.2 h.1.2 h.2
    · cases h
  | own i e =>
    refine ⟨fun o h => ?_, fun o h => by unfold chkS at h; cases h⟩
    unfold chkT at h
    split at h
    · simp only [Bool.and_eq_true, Bool.not_eq_true'] at h
      exact S_own o.okS (locB_ok o.okS h.1.1) h.1.2 h.2
    · cases h
  | par ts r => exact ⟨fun o h => S_par o.okS h, fun o h => by unfold chkS at h; cases h⟩
  | unpack is e =>
    refine ⟨fun o h => ?_, fun o h => by unfold chkS at h; cases h⟩
    unfold chkT at h
    split at h
    · simp only [Bool.and_eq_true, Bool.not_eq_true'] at h
      exact S_unpack o.okS (tgLoc_ok o.okS h.1.1.1) h.1.1.2 (nt_ok h.1.2) h.2
    · cases h
  | setF i g e =>
    refine ⟨fun o h => ?_, fun o h => by unfold chkS at h; cases h⟩
    unfold chkT at h
    split at h
    · simp only [Bool.and_eq_true, Bool.not_eq_true', beq_iff_eq] at h
      exact S_setF o.okS h.1.1.1.1 h.1.1.1.2 h.1.1.2 (nt_ok h.1.2) h.2
    · cases h
  | ownCall i f r =>
    refine ⟨fun o h => ?_, fun o h => by unfold chkS at h; cases h⟩
    unfold chkT at h
    split at h
    · simp only [Bool.and_eq_true, Bool.not_eq_true', beq_iff_eq] at h
      obtain ⟨⟨⟨⟨⟨⟨⟨h1, h2⟩, h3⟩, h4⟩, h5⟩, h6⟩, h7⟩, h8⟩ := h
      exact S_ownCall o.okS (locB_ok o.okS h1) h2 (glB_ok h3) h4 h5 h6 h7 ((good _).pa o.okS.ok h8)
    · cases h
  | aug i o e => exact ⟨fun o h => (by unfold chkT at h; cases h), fun o h => by unfold chkS at h; cases h⟩
  | setIx i k e =>
    refine ⟨fun o h => ?_, fun o h => by unfold chkS at h; cases h⟩
    unfold chkT at h
    split at h
    · simp only [Bool.and_eq_true, Bool.not_eq_true'] at h
      obtain ⟨⟨⟨⟨⟨h1, h2⟩, h3⟩, h4⟩, h5⟩, h6⟩ := h
      exact S_setIx o.okS h1 h2 (nt_ok h3) h4 h5 h6
    · cases h
  | append i e =>
    refine ⟨fun o h => ?_, fun o h => by unfold chkS at h; cases h⟩
    unfold chkT at h
    split at h
    · simp only [Bool.and_eq_true, Bool.not_eq_true', beq_iff_eq] at h
      obtain ⟨⟨⟨⟨⟨rfl, h2⟩, h3⟩, h4⟩, h5⟩, h6⟩ := h
      exact S_append o.okS h2 h3 h4 (by simpa using h5) h6
    · cases h
  | pop j i =>
    refine ⟨fun o h => ?_, fun o h => by unfold chkS at h; cases h⟩
    unfold chkT at h
    split at h
    · simp only [Bool.and_eq_true, Bool.not_eq_true', beq_iff_eq] at h
      obtain ⟨⟨⟨rfl, h2⟩, h3⟩, h4⟩ := h
      exact S_pop o.okS (locB_ok o.okS h2) h3 (by simpa using h4)
    · cases h
  | appendPop i j e =>
    refine ⟨fun o h => ?_, fun o h => by unfold chkS at h; cases h⟩
    unfold chkT at h
    split at h
    · simp only [Bool.and_eq_true, Bool.not_eq_true', beq_iff_eq] at h
      obtain ⟨⟨⟨⟨⟨⟨⟨rfl, rfl⟩, h2⟩, h3⟩, h4⟩, h5⟩, h6⟩, h7⟩ := h
      exact S_appendPop o.okS h2 h3 h4 (by simpa using h5) (by simpa using h6) h7
    · cases h
  | expr e =>
    refine ⟨fun o h => ?_, fun o h => by unfold chkS at h; cases h⟩
    unfold chkT at h
    split at h
    · simp only [Bool.and_eq_true] at h
      exact S_expr o.okS h.1 h.2
    · cases h
  | ite c a b iha ihb =>
    refine ⟨fun o h => ?_, fun o h => by unfold chkS at h; cases h⟩
    unfold chkT at h
    split at h
    · simp only [Bool.and_eq_true] at h
      exact S_ite ((good c).pt o.okS.ok h.1.1) (iha.2 o h.1.2) (ihb.2 o h.2)
    · cases h
  | «for» tg k r b ihb =>
    refine ⟨fun o h => ?_, fun o h => by unfold chkS at h; cases h⟩
    unfold chkT at h
    split at h
    · simp only [Bool.and_eq_true] at h
      obtain ⟨g1, g2⟩ := itB_ok o.okS h.1.2
      exact S_for o.okS g1 (tgLoc_ok o.okS h.1.1) g2 (ihb.2 o h.2)
    · cases h
  | «while» c b ihb =>
    refine ⟨fun o h => ?_, fun o h => by unfold chkS at h; cases h⟩
    unfold chkT at h
    split at h
    · simp only [Bool.and_eq_true] at h
      exact S_while o.okS ((good c).pt o.okS.ok h.1) (ihb.2 o h.2)
    · cases h
  | ret e =>
    refine ⟨fun o h => ?_, fun o h => by unfold chkS at h; cases h⟩
    unfold chkT at h
    split at h
    · simp only [Bool.and_eq_true, Bool.not_eq_true'] at h
      exact S_ret o.okS h.1 h.2
    · cases h
  | raise n r =>
    refine ⟨fun o h => ?_, fun o h => by unfold chkS at h; cases h⟩
    unfold chkT at h
    split at h
    · exact S_raise o h
    · cases h
  | brk =>
    refine ⟨fun o h => ?_, fun o h => by unfold chkS at h; cases h⟩
    unfold chkT at h
    split at h
    · exact S_brk
    · cases h
  | cnt =>
    refine ⟨fun o h => ?_, fun o h => by unfold chkS at h; cases h⟩
    unfold chkT at h
    split at h
    · exact S_cnt
    · cases h
  | freeze i => exact ⟨fun o h => (by unfold chkT at h; cases h), fun o h => by unfold chkS at h; cases h⟩
  | forget i => exact ⟨fun o h => (by unfold chkT at h; cases h), fun o h => by unfold chkS at h; cases h⟩
end
end VC
set_option Elab.async false
set_option linter.all false
set_option maxRecDepth 100000
set_option maxHeartbeats 1000000
/-! VCt: exceptions that are raised; a def's promise. -/
namespace VC
open PySem PySem.Spec PyProof.Rows L2
section
variable {X : Cx} {f : Cf} {t : Tab} {W : XK} {x y z : Expr} {es : List Expr} {a b c r e : VC.E} {pos p : Pos} {k : Nat} {id : Str}
theorem mk_exc {n : Nat} {en : String} {names : List String} (o : OkS X f t W) (T : ExcAt X.prog X.w X.K X.mg X.base k en (f.ec n) names) (hn : f.c.F (1000 + n) = names) (hr : Room (k + 1) X.A) (hg : Gl X id) (he : id = Str.ofString en) (hd : (id == ("__debug__" : Str)) = false) (hh : hards r = true) (hs : (x :: es).all notStar = true) (hz : es.length ≤ 900) (hnl : es.length + 1 = names.length) (hl : elen r = es.length + 1)
    (ha : PA X (x :: es) (tL f t W r)) : PMk X (.Call (.Name id p) (x :: es) [] pos) (tR f t W n r) := by
  subst he
  obtain ⟨fI, fd, ps, iC, tI, F, hb⟩ := T.init
  simp only [List.all_cons, Bool.and_eq_true] at hs
  have P := pmk_oex (p := p) (pos := pos) (dvs := []) T.oex iC tI F hr hb .nil passL hg T.gl ha hd (star_cons hs.1) (star_any hs.2)
  intro pins s σ H Q I h
  refine P pins s σ H Q I ?_
  obtain ⟨H0, ρ, st, rel, q⟩ := h
  refine ⟨H0, ρ, st, rel, ?_⟩
  -- from the error's reading to the arguments' reading
  cases em : evs t.Phi f.c.F r ρ st with
  | bad =>
    rw [em] at q
    exact q
  | err er s1 =>
    rw [em] at q
    exact fun cls dd G0 G g pp ea => q cls dd G0 G g pp ea
  | ok ds s1 =>
    rw [em] at q
    intro vs G0 H1 g pen ra
    have hlen : vs.length = es.length + 1 := by rw [rpL_len ra, hl]
    refine ⟨by omega, fun ad na => ⟨ad, vs, by rw [List.append_nil], by omega, upd_same, fun z => absurd (congrArg List.length z) (by simp only [List.length_nil]; omega), fun _ dx ndx nda => ⟨rfl, dx, fldsOf names vs [], upd_same, by rw [upd_ne nda, upd_same], ?_, ?_⟩⟩⟩
    · rw [upd_ne nda] at ndx
      exact ndx
    · rw [upd_ne nda] at ndx
      have e : upd (del (upd (upd (upd H1 ad (exo ad (f.ec n) none)) dx (exd dx (fldsOf names vs []))) ad (exo ad (f.ec n) (some dx))) ad) dx (.xd (fldsOf names vs [])) = upd H1 dx (.xd (fldsOf names vs [])) := by
        funext b
        by_cases e1 : b = dx
        · subst e1
          rw [upd_same, upd_same]
        · rw [upd_ne e1, upd_ne e1]
          by_cases e2 : b = ad
          · subst e2
            rw [del_same, na]
          · rw [del_ne e2, upd_ne e2, upd_ne e1, upd_ne e2]
      rw [e]
      have hq := q (.ref (f.ec n), some dx) G0 (upd H1 dx (.xd (fldsOf names vs []))) (g.trans (.loose g.sub ndx)) (pen.loose ndx)
      refine hq ⟨rfl, dx, _, vs, rfl, upd_same, g.sub.free ndx, pen.npa ndx, ?_, rpL_hard hh ra⟩
      show FldsAre (f.c.F (1000 + n)) _ _
      rw [hn]
      exact ⟨by omega, fun j m v e1 e2 => (fldsOf_look (names := names) (ws := vs) (acc := []) (by omega) T.nd (fun _ _ _ hv => nomatch hv)).1 j m v e1 e2⟩
end
section
variable {P : Program} {w : World} {mg : Str → Option Value} {base : Heap} {f : Cf} {t : Tab} {k : Nat}
abbrev bodyCx (P : Program) (w : World) (f : Cf) (mg : Str → Option Value) (base : Heap) (N : List Str) (qual : Str) (scope : Scope) (fa : Addr) (cdv : Value) (A : Around) (outer : List PySem.Env) (s : Shared) (H : Hp) (E : XK) : Cx := cxOf (L2.CX P w) P w f.c.K mg base N qual scope fa cdv A outer s H E
theorem Base.okR (B : Base P w mg base f t k) {N ps : List Str} {qual : Str} {scope : Scope} {fa : Addr} {cdv : Value} {A : Around} {outer : List PySem.Env} {s : Shared} {H : Hp} {E : XK} (S : FnScope N ps scope) (hg : A.guards = some []) (hr : Room (k + 1) (A.deeper (envOfC qual scope s.heap.objs.size fa cdv))) (hcat : t.hasC = true → CatAt (bodyCx P w f mg base N qual scope fa cdv A outer s H E) f t) (hlam : t.hasL = true → LamOk (bodyCx P w f mg base N qual scope fa cdv A outer s H E) f t) :
    OkR (bodyCx P w f mg base N qual scope fa cdv A outer s H E) f t E := by
  have tk : Takes (bodyCx P w f mg base N qual scope fa cdv A outer s H E) (fun cls d _ H => E cls d H) := takes_of rfl rfl rfl rfl
  have ok : Ok (bodyCx P w f mg base N qual scope fa cdv A outer s H E) f t E := B.ok rfl rfl rfl rfl rfl rfl S.nd hg (hr.mono (Nat.le_succ k)) (.inr hr) (passes_call tk fun _ _ _ _ h => h) hcat hlam
  have okS : OkS (bodyCx P w f mg base N qual scope fa cdv A outer s H E) f t E := ⟨ok, S.kind, fun _ => rfl, passes_of rfl⟩
  refine ⟨okS, tk, fun n r x h => ?_⟩
  unfold raiseB at h
  split at h
  · simp only [Bool.and_eq_true, Bool.not_eq_true', beq_iff_eq, decide_eq_true_eq] at h
    obtain ⟨⟨⟨⟨⟨⟨⟨⟨h1, h2⟩, h3⟩, h4⟩, h5⟩, h6⟩, h7⟩, h8⟩, h9⟩ := h
    obtain ⟨T, hl⟩ := B.exc n h1
    exact mk_exc okS T rfl hr (glB_ok h2) h3 h4 h5 h6 h7 (by rw [hl]; exact h8) (by rw [(good _).ln h9]; rfl) ((good _).pa ok h9)
  · cases h
/-- a def, its arguments' number looked at -/
def defF (np : Nat) (Φ : Fns) (F : Flds) (s : S) (n : Nat) : List D → M D := fun l => if l.length = np then runF Φ F s n l else M.bad
theorem start_ok {c : Cfg} {N ps : List Str} {scope : Scope} {H0 H : Hp} {st : PenSt} (S : FnScope N ps scope) {vs : List V} {ds : List D} (sm : Same H0 H) (pen : PenAt c H0 H st) (r : Reps c H0 vs ds) (hl : vs.length = ps.length) :
    Rel c H0 H (L2.start N vs) (ds.map SD.val ++ List.replicate (N.length - ds.length) .no) st := by
  have hd : vs.length = ds.length := r.length
  have hp : ps.length ≤ N.length := by have := congrArg List.length S.pre; rw [List.length_take] at this; omega
  refine ⟨sm, pen, ⟨?_, fun i s q e1 e2 => ?_, fun i j l m v hne e1 e2 e3 => ?_⟩⟩
  · unfold L2.start
    simp [hd]
  · unfold L2.start at e1
    by_cases hi : i < ds.length
    · rw [List.getElem?_append_left (by simpa using hi)] at e2
      rw [List.getElem?_append_left (by simp; omega)] at e1
      rw [List.getElem?_map, List.getElem?_eq_getElem hi] at e2
      cases e2
      obtain ⟨v, hv, rv⟩ := r.get (List.getElem?_eq_getElem hi)
      rw [List.getElem?_map, hv] at e1
      cases e1
      exact ⟨v, rfl, rv⟩
    · rw [List.getElem?_append_right (by simpa using hi)] at e2
      rw [List.getElem?_replicate] at e2
      split at e2
      · cases e2
        trivial
      · cases e2
  · by_cases hi : i < ds.length
    · rw [List.getElem?_append_left (by simpa using hi), List.getElem?_map, List.getElem?_eq_getElem hi] at e1
      cases e1
    · rw [List.getElem?_append_right (by simpa using hi), List.getElem?_replicate] at e1
      split at e1 <;> cases e1
theorem noOwn {ds : List D} {n i : Nat} {l : List D} (h : (ds.map SD.val ++ List.replicate n SD.no)[i]? = some (.own l)) : False := by
  by_cases hi : i < ds.length
  · rw [List.getElem?_append_left (by simpa using hi), List.getElem?_map, List.getElem?_eq_getElem hi] at h
    cases h
  · rw [List.getElem?_append_right (by simpa using hi), List.getElem?_replicate] at h
    split at h <;> cases h
theorem noIns {ds : List D} {n i m : Nat} {fs : List (String × D)} (h : (ds.map SD.val ++ List.replicate n SD.no)[i]? = some (.ins m fs)) : False := by
  by_cases hi : i < ds.length
  · rw [List.getElem?_append_left (by simpa using hi), List.getElem?_map, List.getElem?_eq_getElem hi] at h
    cases h
  · rw [List.getElem?_append_right (by simpa using hi), List.getElem?_replicate] at h
    split at h <;> cases h
/-- what a def that hands lambdas on must know -/
def CatF (P : Program) (w : World) (mg : Str → Option Value) (base : Heap) (f : Cf) (t : Tab) (k : Nat) (N : List Str) (x qual : Str) (params : Arguments) (body : List Stmt) (scope : Scope) (fa : Addr) : Prop :=
  ∀ (oc : Value) (od : Option Addr) (dV kV doc pm : Value) (an : Option Addr) (cdv ct : Value) (osl : Array (Option Value)) (A : Around) (outer : List PySem.Env) (sh : Shared) (H : Hp) (E : XK), f.c.K.lookup fa = some ⟨oc, od, .func (PySem.W.fnOf x qual params body scope dV kV doc pm an cdv ct), osl⟩ → PySem.W.codeIn f.c.K cdv qual = true →
    Room (k + 1) (A.deeper (envOfC qual scope sh.heap.objs.size fa cdv)) → t.hasC = true → CatAt (bodyCx P w f mg base N qual scope fa cdv A outer sh H E) f t
/-- THE RULE for a def -/
theorem fnG {x qual : Str} {params : Arguments} {body : List Stmt} {scope : Scope} {kws : List (Str × V)} {fa : Addr} {fd : FuncData} {N ps : List Str} {s : S} (F : FunD f.c.K x qual params body scope [] kws fa fd) (S : FnScope N ps scope) (B : Base P w mg base f t k) (hc : chkS t N f.c.used s scope body = true) (hcat : CatF P w mg base f t k N x qual params body scope fa) (hL : t.hasL = false) :
    FnG P w f.c.K mg base (k + 2) fa fd ps (spF f ps.length (defF ps.length t.Phi f.c.F s N.length)) := by
  obtain ⟨oc, od, dV, kV, doc, pm, an, cdv, ct, osl, rfl, lk, hcd, _, _⟩ := F.ex
  refine ⟨fun vs H Q E h => ?_, fun A outer sh H args us vs Q E hg hr e0 hb rv hsp => ?_⟩
  · obtain ⟨_, _, _, _, _, _, h, _⟩ := h
    exact h
  · obtain ⟨H0, ds, st, sm, pen, rr, hl, q⟩ := hsp
    refine run_ofS' lk hcd S hr e0 hb rv hl fun hr' => ⟨_, (suite s).2 (B.okR S hg hr' (hcat _ _ _ _ _ _ _ _ _ _ _ _ _ _ _ lk hcd hr') (fun z => by rw [hL] at z; cases z)) hc, H0, H, H0, _, st, ⟨start_ok S sm pen rr hl, sm, .refl sm, fun i l p e1 _ => (noOwn e1).elim, fun i n fs p e1 _ => (noIns e1).elim⟩, ?_⟩
    unfold defF at q
    rw [if_pos (by rw [← rr.length]; exact hl)] at q
    unfold runF M.bind at q
    cases em : exS t.Phi f.c.F s (ds.map SD.val ++ List.replicate (N.length - ds.length) .no) st with
    | bad =>
      rw [em] at q
      exact q
    | err er s1 =>
      rw [em] at q
      exact fun cls dd G0 G g pp ea => q cls dd G0 G g pp ea
    | ok fl s1 =>
      rw [em] at q
      cases fl with
      | nx ρ => exact fun σ' G0 G r' _ => q .non G0 G r'.gr r'.rel.pen .non
      | rt d => exact fun v G0 G g pp r' => q v G0 G g pp r'
      | bk ρ => exact q.elim
      | ct ρ => exact q.elim
where
  run_ofS' {CX : CXT} {P : Program} {w : World} {K : PySem.W.Frag} {mg : Str → Option Value} {base : Heap} {k : Nat} {f : Addr} {name qual : Str} {params : Arguments} {body : List Stmt} {scope : Scope} {dV kV doc pm cdv ct oc : Value} {an od : Option Addr}
      {osl : Array (Option Value)} {N ps : List Str} (lk : K.lookup f = some ⟨oc, od, .func (PySem.W.fnOf name qual params body scope dV kV doc pm an cdv ct), osl⟩) (hcd : PySem.W.codeIn K cdv qual = true) (S : FnScope N ps scope)
      {A : Around} {outer : List PySem.Env} {s : Shared} {H : Hp} {args : Args} {us : List Value} {vs : List V} {Q : VK} {E : XK} (hr : Room (k + 2) A) (e0 : Env0 P w K mg base A outer s H) (hb : BindsTo s (PySem.W.fnOf name qual params body scope dV kV doc pm an cdv ct) args (ps.zip us)) (r : Vals vs us) (hl : vs.length = ps.length)
      (hbody : Room (k + 1) (A.deeper (envOfC qual scope s.heap.objs.size f cdv)) → ∃ t, PSs (cxOf CX P w K mg base N qual scope f cdv A outer s H E) body t ∧ t { nx := fun _ H' => Q .non H', rt := Q } (L2.start N vs) H) :
      codeAny (model P w) A (.call (.ref f) args) (CR CX outer P w H s Q E) s := LamX.run_ofS lk hcd S hr e0 hb r hl hbody
/-- one more def in the table -/
def Tab.add (t : Tab) (n : Nat) (g : List D → M D) : Tab := { t with Phi := fun m => if m = n then g else t.Phi m, has := fun m => m == n || t.has m, hasI := fun m => t.hasI m && !(5000 + m == n), hasQ := fun m => t.hasQ m && !(6000 + m == n), hasF := fun m => t.hasF m && !(m == n) }
theorem addI {n k : Nat} {g : List D → M D} (h : ∀ m, t.hasI m = true → ∃ j, j + 1 ≤ k ∧ MkIAt P w f.c.K mg base j f t.Phi t.cn m) : ∀ m, (t.add n g).hasI m = true → ∃ j, j + 1 ≤ k ∧ MkIAt P w f.c.K mg base j f (t.add n g).Phi (t.add n g).cn m := fun m hm => by
  have hm : (t.hasI m && !(5000 + m == n)) = true := hm
  simp only [Bool.and_eq_true, Bool.not_eq_true', beq_eq_false_iff_ne] at hm
  obtain ⟨j, a, b⟩ := h m hm.1
  exact ⟨j, a, b.cong (if_neg hm.2)⟩
theorem addQ {n k : Nat} {g : List D → M D} (h : ∀ m, t.hasQ m = true → ∃ j, j + 1 ≤ k ∧ EqAt P w f.c.K mg base j f t.Phi m) : ∀ m, (t.add n g).hasQ m = true → ∃ j, j + 1 ≤ k ∧ EqAt P w f.c.K mg base j f (t.add n g).Phi m := fun m hm => by
  have hm : (t.hasQ m && !(6000 + m == n)) = true := hm
  simp only [Bool.and_eq_true, Bool.not_eq_true', beq_eq_false_iff_ne] at hm
  obtain ⟨j, a, b⟩ := h m hm.1
  exact ⟨j, a, b.cong (if_neg hm.2)⟩
theorem addF {n k : Nat} {g : List D → M D} (h : ∀ m, t.hasF m = true → ∃ fa fd ps, mg (Str.ofString (t.nm m)) = some (.ref fa) ∧ PySem.W.keepIn f.c.K (.ref fa) = true ∧ FnG P w f.c.K mg base k fa fd ps (spFr f ps.length (t.Phi m)) ∧ Binds f.c.K fd ps [] ∧ ∀ l st, t.Phi m l st ≠ .bad → l.length = ps.length) :
    ∀ m, (t.add n g).hasF m = true → ∃ fa fd ps, mg (Str.ofString (t.nm m)) = some (.ref fa) ∧ PySem.W.keepIn f.c.K (.ref fa) = true ∧ FnG P w f.c.K mg base k fa fd ps (spFr f ps.length ((t.add n g).Phi m)) ∧ Binds f.c.K fd ps [] ∧ ∀ l st, (t.add n g).Phi m l st ≠ .bad → l.length = ps.length := fun m hm => by
  have hm : (t.hasF m && !(m == n)) = true := hm
  simp only [Bool.and_eq_true, Bool.not_eq_true', beq_eq_false_iff_ne] at hm
  have e : (t.add n g).Phi m = t.Phi m := if_neg hm.2
  rw [e]
  exact h m hm.1
/-- one more def -/
theorem Base.add {x qual : Str} {params : Arguments} {body : List Stmt} {scope : Scope} {kws : List (Str × V)} {fa : Addr} {fd : FuncData} {N ps : List Str} {s : S} (B : Base P w mg base f t k) (n : Nat) (F : FunD f.c.K x qual params body scope [] kws fa fd) (S : FnScope N ps scope)
    (hm : mg (Str.ofString (t.nm n)) = some (.ref fa)) (hb : Binds f.c.K fd ps []) (hc : chkS t N f.c.used s scope body = true) (hcat : CatF P w mg base f t k N x qual params body scope fa) (hL : t.hasL = false := by rfl) : Base P w mg base f (t.add n (defF ps.length t.Phi f.c.F s N.length)) (k + 2) := by
  have G := fnG F S B hc hcat hL
  have B2 := B.mono (k := k + 2) (by omega)
  refine ⟨fun m h => ?_, B2.blt, B2.gcd, B2.objs, B2.cls, B2.isi, B2.fld, B2.exc, B2.mkx, addI B2.mki, addQ B2.eqs, addF B2.frs⟩
  have h : (m == n || t.has m) = true := h
  simp only [Bool.or_eq_true, beq_iff_eq] at h
  have hΦ : (t.add n (defF ps.length t.Phi f.c.F s N.length)).Phi m = if m = n then defF ps.length t.Phi f.c.F s N.length else t.Phi m := rfl
  rw [hΦ]
  by_cases e : m = n
  · subst e
    rw [if_pos rfl]
    refine ⟨fa, fd, ps, hm, F.kp, G, hb, fun l st hl => ?_⟩
    unfold defF at hl
    split at hl
    · assumption
    · exact absurd rfl hl
  · rw [if_neg e]
    exact B2.fns m (h.resolve_left e)
/-- one more def, its promise known -/
theorem Base.addG {fa : Addr} {fd : FuncData} {ps : List Str} (B : Base P w mg base f t k) (n : Nat) (g : List D → M D) (G : FnG P w f.c.K mg base k fa fd ps (spF f ps.length g)) (hm : mg (Str.ofString (t.nm n)) = some (.ref fa)) (hk : PySem.W.keepIn f.c.K (.ref fa) = true) (hb : Binds f.c.K fd ps []) (hg : ∀ l st, g l st ≠ .bad → l.length = ps.length) :
    Base P w mg base f (t.add n g) k := by
  refine ⟨fun m h => ?_, B.blt, B.gcd, B.objs, B.cls, B.isi, B.fld, B.exc, B.mkx, addI B.mki, addQ B.eqs, addF B.frs⟩
  have h : (m == n || t.has m) = true := h
  simp only [Bool.or_eq_true, beq_iff_eq] at h
  have hΦ : (t.add n g).Phi m = if m = n then g else t.Phi m := rfl
  rw [hΦ]
  by_cases e : m = n
  · subst e
    rw [if_pos rfl]
    exact ⟨fa, fd, ps, hm, hk, G, hb, hg⟩
  · rw [if_neg e]
    exact B.fns m (h.resolve_left e)
end
end VC
set_option Elab.async false
set_option linter.all false
set_option maxRecDepth 100000
set_option maxHeartbeats 1000000
/-! VCu: the pen. -/
namespace VC
open PySem PySem.Spec PyProof.Rows L2
/-! ### what a draw computes -/
def PenSt.ok (s : PenSt) : Bool := decide (0 ≤ s.fold ∧ s.fold < 2 ^ 40 ∧ s.count < 2 ^ 40)
def drawS (s : PenSt) : PenSt :=
  let s := { s with count := s.count + 1 }
  if s.digits = 0 ∧ s.pos < s.cells.length then
    let cell := s.cells[s.pos]?.getD 0
    let s := { s with pos := s.pos + 1 }
    if 10 ^ 18 ≤ cell then { s with digits := cell - 10 ^ 18 } else { s with fold := (s.fold * 48271 + cell).fmod 2147483563 }
  else s
def drawE (many : Int) (s : PenSt) : Res D :=
  if 0 < s.digits then .ok (.int (s.digits.fmod many)) { s with digits := s.digits.fdiv many }
  else .ok (.int ((((s.fold + s.count * 8513 + 61) ^ 19).fmod 2305843009213693951).fdiv 256 |>.fmod many)) s
def drawF : List D → M D
  | [.pen, .int many] => fun s => if 0 < many ∧ many < 2 ^ 200 ∧ s.ok then drawE many (drawS s) else .bad
  | _ => M.bad
/-! ### the pen's dict -/
theorem pget (la : Addr) (st : PenSt) : valV (penKV la st) (.inr "cells") = some (.ref la) ∧ valV (penKV la st) (.inr "at") = some (.int st.pos) ∧ valV (penKV la st) (.inr "digits") = some (.int st.digits) ∧ valV (penKV la st) (.inr "count") = some (.int st.count) ∧ valV (penKV la st) (.inr "fold") = some (.int st.fold) := ⟨rfl, rfl, rfl, rfl, rfl⟩
theorem pputC (la : Addr) (st : PenSt) (n : Nat) : putK (penKV la st) (.inr "count") (.int n) = penKV la { st with count := n } := rfl
theorem pputA (la : Addr) (st : PenSt) (n : Nat) : putK (penKV la st) (.inr "at") (.int n) = penKV la { st with pos := n } := rfl
theorem pputD (la : Addr) (st : PenSt) (n : Int) : putK (penKV la st) (.inr "digits") (.int n) = penKV la { st with digits := n } := rfl
theorem pputF (la : Addr) (st : PenSt) (n : Int) : putK (penKV la st) (.inr "fold") (.int n) = penKV la { st with fold := n } := rfl
/-! ### the draw's reading -/
abbrev kS (k : String) : TE := L2.tC (.str (Str.ofString k))
abbrev gP (k : String) : TE := tDGet (tVar 0) (kS k)
def rInt1 : List V → Hp → VK → Prop := fun xs H Q => (∃ i, xs = [V.int i] ∧ Q (V.int i) H) ∨ ∃ k, xs = [V.bl k] ∧ Q (V.int (if k = true then 1 else 0)) H
def rLenV (K : PySem.W.Frag) : List V → Hp → VK → Prop := fun xs H Q => ∃ x n, xs = [x] ∧ LenV K x H n ∧ Q (V.int (n : Nat)) H
abbrev rAdd : R2 := rI0 fun i j => V.int (i + j)
abbrev rSub : R2 := rI0 fun i j => V.int (i - j)
abbrev rMul : R2 := rI CMul fun i j => V.int (i * j)
abbrev rMod : R2 := rI (fun _ j => j ≠ 0) fun i j => V.int (i.fmod j)
abbrev rDvN : R2 := rI CDivN fun i j => V.int (i.fdiv j)
abbrev rDvD : R2 := rI (fun _ j => j ≠ 0 ∧ j.natAbs < BIGD) fun i j => V.int (i.fdiv j)
abbrev rPow : R2 := rI CPow fun i j => V.int (i ^ j.toNat)
abbrev cI (i : Int) : TE := L2.tC (.int i)
def t_end : TS :=
  tSeq (tIfS (L2.tB (tGt (gP "digits") (cI 0)))
    (tSeq (tAsg (tOp rMod (tCB rInt1 (tCons (gP "digits") tNil)) (tVar 1)) (gName 3))
    (tSeq (sDPut (tVar 0) (kS "digits") (tOp rDvD (gP "digits") (tVar 1))) (tRet (tVar 3)))) tNext)
  (tSeq (tAsg (tOp rAdd (tOp rAdd (gP "fold") (tOp rMul (gP "count") (cI 8513))) (cI 61)) (gName 4))
  (tRet (tOp rMod (tOp rDvN (tCB rInt1 (tCons (tOp rMod (tOp rPow (tVar 4) (cI 19)) (cI 2305843009213693951)) tNil)) (cI 256)) (tVar 1))))
def t_mid (K : PySem.W.Frag) : TS :=
  tIfS (tAnd (L2.tB (tEqI (gP "digits") (cI 0))) (L2.tB (tLt (gP "at") (tCB (rLenV K) (tCons (gP "cells") tNil)))))
    (tSeq (tAsg (tOp (rIxL K) (gP "cells") (gP "at")) (gName 2))
    (tSeq (sDPut (tVar 0) (kS "at") (tOp rAdd (gP "at") (cI 1)))
    (tIfS (L2.tB (tGe (tVar 2) (tOp rPow (cI 10) (cI 18))))
      (sDPut (tVar 0) (kS "digits") (tOp rSub (tVar 2) (tOp rPow (cI 10) (cI 18))))
      (sDPut (tVar 0) (kS "fold") (tOp rMod (tCB rInt1 (tCons (tOp rAdd (tOp rMul (gP "fold") (cI 48271)) (tVar 2)) tNil)) (cI 2147483563)))))) tNext
def t_draw (K : PySem.W.Frag) : TS := tSeq (sDPut (tVar 0) (kS "count") (tOp rAdd (gP "count") (cI 1))) (tSeq (t_mid K) t_end)
section
variable {pa la : Addr} {σ : L2.St} {H : Hp} {Q : VK} {D' : Ends} {tv : TE} {st : PenSt}
theorem g_cells (h0 : σ[0]? = some (some (.ref pa))) (h : H pa = some (.dK (penKV la st))) (q : Q (.ref la) H) : gP "cells" σ H Q := ⟨_, h0, pa, .ref la, rfl, .inl ⟨_, .inr "cells", .inl h, rfl, rfl⟩, q⟩
theorem g_at (h0 : σ[0]? = some (some (.ref pa))) (h : H pa = some (.dK (penKV la st))) (q : Q (.int st.pos) H) : gP "at" σ H Q := ⟨_, h0, pa, .int st.pos, rfl, .inl ⟨_, .inr "at", .inl h, rfl, rfl⟩, q⟩
theorem g_digits (h0 : σ[0]? = some (some (.ref pa))) (h : H pa = some (.dK (penKV la st))) (q : Q (.int st.digits) H) : gP "digits" σ H Q := ⟨_, h0, pa, .int st.digits, rfl, .inl ⟨_, .inr "digits", .inl h, rfl, rfl⟩, q⟩
theorem g_count (h0 : σ[0]? = some (some (.ref pa))) (h : H pa = some (.dK (penKV la st))) (q : Q (.int st.count) H) : gP "count" σ H Q := ⟨_, h0, pa, .int st.count, rfl, .inl ⟨_, .inr "count", .inl h, rfl, rfl⟩, q⟩
theorem g_fold (h0 : σ[0]? = some (some (.ref pa))) (h : H pa = some (.dK (penKV la st))) (q : Q (.int st.fold) H) : gP "fold" σ H Q := ⟨_, h0, pa, .int st.fold, rfl, .inl ⟨_, .inr "fold", .inl h, rfl, rfl⟩, q⟩
theorem g_put {k : String} {v : V} (h0 : σ[0]? = some (some (.ref pa))) (h : H pa = some (.dK (penKV la st))) (q : D'.nx σ (upd H pa (.dK (putK (penKV la st) (.inr (Str.ofString k)) v)))) : (fun v H1 => tVar 0 σ H1 fun x H2 => kS k σ H2 fun y H3 => ∃ a H4, x = .ref a ∧ DPut H3 a y v H4 ∧ D'.nx σ H4) v H :=
  ⟨_, h0, pa, _, rfl, .inl ⟨_, .inr (Str.ofString k), h, rfl, (by show 5 < sizeLine; rw [sizeLine_eq]; decide), rfl⟩, q⟩
end
theorem upd_upd {H : Hp} {p : Addr} {o u : HO} : upd (upd H p o) p u = upd H p u := by
  funext b
  by_cases e : b = p
  · subst e
    rw [upd_same, upd_same]
  · rw [upd_ne e, upd_ne e, upd_ne e]
theorem ifT {c : Bool} {A B : Prop} (h : c = true) (a : A) : if c = true then A else B := by rw [if_pos h]; exact a
theorem ifF {c : Bool} {A B : Prop} (h : c = false) (b : B) : if c = true then A else B := by rw [if_neg (by rw [h]; decide)]; exact b
theorem big_div {many : Int} (h1 : 0 < many) (h2 : many < 2 ^ 200) : many.natAbs < BIGD := by
  have : many.natAbs < 2 ^ 200 := by omega
  unfold BIGD
  exact Nat.lt_of_lt_of_le this (Nat.pow_le_pow_right (by decide) (by decide))
/-- a draw's second half -/
theorem pure_end {pa la : Addr} {s : PenSt} {many : Int} {σ : L2.St} {H : Hp} {D' : Ends} (m1 : 0 < many) (m2 : many < 2 ^ 200) (b1 : 0 ≤ s.fold) (b2 : s.fold < 2 ^ 41) (b3 : s.count < 2 ^ 41) (h0 : σ[0]? = some (some (.ref pa))) (h1 : σ[1]? = some (some (.int many))) (hl : σ.length = 5) (hp : H pa = some (.dK (penKV la s)))
    (q : ∀ v st', drawE many s = .ok (.int v) st' → D'.rt (.int v) (upd H pa (.dK (penKV la st')))) (same : upd H pa (.dK (penKV la s)) = H) : t_end D' σ H := by
  unfold t_end
  have s3 : ∀ v : Option V, (σ.set 3 v)[0]? = some (some (.ref pa)) ∧ (σ.set 3 v)[1]? = some (some (.int many)) := fun v => ⟨by rw [List.getElem?_set_ne (by decide)]; exact h0, by rw [List.getElem?_set_ne (by decide)]; exact h1⟩
  refine g_digits (st := s) h0 hp ⟨_, _, rfl, rfl, _, rfl, ?_⟩
  by_cases hd : 0 < s.digits
  · refine ifT (decide_eq_true hd) ?_
    refine g_digits (st := s) h0 hp (.inl ⟨_, rfl, _, h1, _, _, rfl, rfl, by omega, ?_⟩)
    have hh := s3 (some (.int (s.digits.fmod many)))
    refine g_digits (st := s) hh.1 hp ⟨_, hh.2, _, _, rfl, rfl, ⟨by omega, big_div m1 m2⟩, g_put (la := la) (st := s) hh.1 hp ⟨.int (s.digits.fmod many), ?_, ?_⟩⟩
    · rw [List.getElem?_set_self (by omega)]
    · have := q (s.digits.fmod many) { s with digits := s.digits.fdiv many } (by unfold drawE; rw [if_pos hd])
      rw [← pputD] at this
      exact this
  · refine ifF (decide_eq_false hd) ?_
    have mulok : CMul (s.count : Int) 8513 := .inr ⟨by decide, by decide⟩
    refine g_fold (st := s) h0 hp (g_count (st := s) h0 hp ⟨_, _, rfl, rfl, mulok, _, _, rfl, rfl, _, _, rfl, rfl, ?_⟩)
    have h4 : (σ.set 4 (some (.int (s.fold + s.count * 8513 + 61))))[4]? = some (some (.int (s.fold + s.count * 8513 + 61))) := List.getElem?_set_self (by omega)
    have h41 : (σ.set 4 (some (.int (s.fold + s.count * 8513 + 61))))[1]? = some (some (.int many)) := by rw [List.getElem?_set_ne (by decide)]; exact h1
    refine ⟨_, h4, _, _, rfl, rfl, ⟨by decide, by decide, by omega⟩, _, _, rfl, rfl, (show (2305843009213693951 : Int) ≠ 0 by decide), .inl ⟨_, rfl, _, _, rfl, rfl, ⟨by decide, by decide⟩, _, h41, _, _, rfl, rfl, by omega, ?_⟩⟩
    have := q (((((s.fold + s.count * 8513 + 61) ^ 19).fmod 2305843009213693951).fdiv 256).fmod many) s (by unfold drawE; rw [if_neg hd])
    rw [same] at this
    exact this
theorem ten18 : (10 : Int) ^ (18 : Int).toNat = 10 ^ 18 := rfl
/-- behind a draw's first half: the pen's dict tells drawS -/
theorem pure_mid {K : PySem.W.Frag} {pa la : Addr} {s : PenSt} {σ : L2.St} {H : Hp} {D' : Ends} (h0 : σ[0]? = some (some (.ref pa))) (hl : σ.length = 5) (hp : H pa = some (.dK (penKV la s))) (hla : H la = some (.lst (s.cells.map V.int))) (ne : la ≠ pa) (same : upd H pa (.dK (penKV la s)) = H)
    (q : ∀ (σ' : L2.St) (s' : PenSt), (∀ i : Nat, i < 2 → σ'[i]? = σ[i]?) → σ'.length = 5 → s' = (if s.digits = 0 ∧ s.pos < s.cells.length then (if 10 ^ 18 ≤ s.cells[s.pos]?.getD 0 then { s with pos := s.pos + 1, digits := s.cells[s.pos]?.getD 0 - 10 ^ 18 } else { s with pos := s.pos + 1, fold := (s.fold * 48271 + s.cells[s.pos]?.getD 0).fmod 2147483563 }) else s) → D'.nx σ' (upd H pa (.dK (penKV la s')))) : t_mid K D' σ H := by
  unfold t_mid
  refine g_digits (st := s) h0 hp ⟨_, _, rfl, rfl, _, rfl, ?_⟩
  by_cases hd : s.digits = 0
  · refine ifT (decide_eq_true hd) ?_
    refine g_at (st := s) h0 hp (g_cells (st := s) h0 hp ⟨.ref la, _, rfl, .inl ⟨_, .of hla, rfl⟩, _, _, rfl, rfl, _, rfl, ?_⟩)
    by_cases hc : s.pos < s.cells.length
    · refine ifT (decide_eq_true (by rw [List.length_map]; omega)) ?_
      have hcell : s.cells[s.pos]? = some (s.cells[s.pos]?.getD 0) := by rw [List.getElem?_eq_getElem hc]; rfl
      generalize hcv : s.cells[s.pos]?.getD 0 = cell at hcell q
      have hat : atI (s.cells.map V.int) (s.pos : Int) = some (.int cell) := atI_nat (by rw [List.getElem?_map, hcell]; rfl)
      refine g_cells (st := s) h0 hp (g_at (st := s) h0 hp ⟨_, _, _, _, rfl, rfl, .of hla, hat, ?_⟩)
      have h20 : (σ.set 2 (some (.int cell)))[0]? = some (some (.ref pa)) := by rw [List.getElem?_set_ne (by decide)]; exact h0
      have h22 : (σ.set 2 (some (.int cell)))[2]? = some (some (.int cell)) := List.getElem?_set_self (by omega)
      have hlow : ∀ i : Nat, i < 2 → (σ.set 2 (some (.int cell)))[i]? = σ[i]? := fun i hi => List.getElem?_set_ne (by omega)
      refine g_at (st := s) h20 hp ⟨_, _, rfl, rfl, g_put (la := la) (st := s) h20 hp ?_⟩
      have ea : putK (penKV la s) (.inr (Str.ofString "at")) (.int ((s.pos : Int) + 1)) = penKV la { s with pos := s.pos + 1 } := pputA la s (s.pos + 1)
      rw [ea]
      have k1 : (upd H pa (.dK (penKV la { s with pos := s.pos + 1 }))) pa = some (.dK (penKV la { s with pos := s.pos + 1 })) := upd_same
      refine ⟨_, h22, _, _, rfl, rfl, ⟨by decide, by decide, by decide⟩, _, _, rfl, rfl, _, rfl, ?_⟩
      by_cases hb : 10 ^ 18 ≤ cell
      · refine ifT (decide_eq_true (by rw [ten18]; exact hb)) ?_
        refine ⟨_, h22, _, _, rfl, rfl, ⟨by decide, by decide, by decide⟩, _, _, rfl, rfl, g_put (la := la) (st := { s with pos := s.pos + 1 }) h20 k1 ?_⟩
        rw [pputD, upd_upd]
        refine q _ _ hlow (by simpa using hl) ?_
        rw [if_pos ⟨hd, hc⟩, if_pos hb]
        rfl
      · refine ifF (decide_eq_false (by rw [ten18]; exact hb)) ?_
        refine g_fold (st := { s with pos := s.pos + 1 }) h20 k1 ⟨_, _, rfl, rfl, .inr ⟨by decide, by decide⟩, _, h22, _, _, rfl, rfl, .inl ⟨_, rfl, _, _, rfl, rfl, (show (2147483563 : Int) ≠ 0 by decide), g_put (la := la) (st := { s with pos := s.pos + 1 }) h20 k1 ?_⟩⟩
        rw [pputF, upd_upd]
        refine q _ _ hlow (by simpa using hl) ?_
        rw [if_pos ⟨hd, hc⟩, if_neg hb]
    · refine ifF (decide_eq_false (by rw [List.length_map]; omega)) ?_
      have := q σ s (fun _ _ => rfl) hl (by rw [if_neg (fun z => hc z.2)])
      rw [same] at this
      exact this
  · refine ifF (decide_eq_false hd) (ifF rfl ?_)
    have := q σ s (fun _ _ => rfl) hl (by rw [if_neg (fun z => hd z.1)])
    rw [same] at this
    exact this
theorem drawS_eq (s : PenSt) : drawS s = (if s.digits = 0 ∧ s.pos < s.cells.length then (if 10 ^ 18 ≤ s.cells[s.pos]?.getD 0 then { s with count := s.count + 1, pos := s.pos + 1, digits := s.cells[s.pos]?.getD 0 - 10 ^ 18 } else { s with count := s.count + 1, pos := s.pos + 1, fold := (s.fold * 48271 + s.cells[s.pos]?.getD 0).fmod 2147483563 }) else { s with count := s.count + 1 }) := rfl
theorem drawS_cells (s : PenSt) : (drawS s).cells = s.cells := by
  rw [drawS_eq]
  split
  · split <;> rfl
  · rfl
theorem drawS_fold (s : PenSt) (h : s.ok = true) : 0 ≤ (drawS s).fold ∧ (drawS s).fold < 2 ^ 40 ∧ (drawS s).count = s.count + 1 := by
  unfold PenSt.ok at h
  simp only [decide_eq_true_eq] at h
  rw [drawS_eq]
  split
  · split
    · exact ⟨h.1, h.2.1, rfl⟩
    · have h1 := Int.fmod_nonneg_of_pos (s.fold * 48271 + s.cells[s.pos]?.getD 0) (show (0 : Int) < 2147483563 by decide)
      have h2 := Int.fmod_lt_of_pos (s.fold * 48271 + s.cells[s.pos]?.getD 0) (show (0 : Int) < 2147483563 by decide)
      exact ⟨h1, Int.lt_trans h2 (by decide), rfl⟩
  · exact ⟨h.1, h.2.1, rfl⟩
theorem pure_draw {c : Cfg} {H0 H : Hp} {st : PenSt} {many : Int} {K : PySem.W.Frag} {Q : VK} (sm : Same H0 H) (pen : PenAt c H0 H st) (m1 : 0 < many) (m2 : many < 2 ^ 200) (ok : st.ok = true)
    (q : ∀ v st', drawE many (drawS st) = .ok (.int v) st' → H0 c.la = some (.lst (st'.cells.map V.int)) → Q (.int v) (upd H c.pa (.dK (penKV c.la st')))) : t_draw K { nx := fun _ H' => Q .non H', rt := Q } (L2.start ["pen", "many", "cell", "digit", "blend"] [.ref c.pa, .int many]) H := by
  obtain ⟨⟨p0, p1, p2⟩, _, _⟩ := pen
  generalize c.la = la at p1 p2 q
  have hf := drawS_fold st ok
  unfold PenSt.ok at ok
  simp only [decide_eq_true_eq] at ok
  have hla : la ≠ c.pa := fun e => by
    subst e
    rw [p0] at p2
    cases p2
  unfold t_draw
  refine g_count (st := st) rfl p1 ⟨_, 1, rfl, rfl, g_put (la := la) (st := st) rfl p1 ?_⟩
  have ec : putK (penKV la st) (.inr (Str.ofString "count")) (.int ((st.count : Int) + 1)) = penKV la { st with count := st.count + 1 } := pputC la st (st.count + 1)
  rw [ec]
  refine pure_mid (K := K) (pa := c.pa) (la := la) (s := { st with count := st.count + 1 }) rfl rfl upd_same (by rw [upd_ne hla]; exact sm _ _ p2) hla upd_upd fun σ' s' h1 h2 hs => ?_
  have e : s' = drawS st := by rw [hs, drawS_eq]
  subst e
  refine pure_end (la := la) (s := drawS st) (pa := c.pa) (many := many) m1 m2 hf.1 (by omega) (by omega) ((h1 0 (by decide)).trans rfl) ((h1 1 (by decide)).trans rfl) h2 upd_same (fun v st' hv => ?_) upd_upd
  have hc : st'.cells = st.cells := by
    rw [← drawS_cells st]
    unfold drawE at hv
    split at hv <;> cases hv <;> rfl
  rw [upd_upd, upd_upd]
  exact q v st' hv (by rw [hc]; exact p2)
/-- the pen's dict is told anew -/
theorem pen_upd {c : Cfg} {H0 H : Hp} {st st' : PenSt} (sm : Same H0 H) (pen : PenAt c H0 H st) (hl : H0 c.la = some (.lst (st'.cells.map V.int))) : Grow c H0 H H0 (upd H c.pa (.dK (penKV c.la st'))) ∧ PenAt c H0 (upd H c.pa (.dK (penKV c.la st'))) st' := by
  obtain ⟨⟨p0, p1, p2⟩, pt, pn⟩ := pen
  have keep : ∀ {b : Addr} {o : HO}, H b = some o → b ≠ c.pa → upd H c.pa (.dK (penKV c.la st')) b = some o := fun {b o} h n => by rw [upd_ne n]; exact h
  have npa : ∀ {b : Addr} {o : HO}, H b = some o → (∀ kvs, o ≠ .dK kvs) → b ≠ c.pa := fun {b o} h n z => by
    subst z
    rw [p1] at h
    exact n _ (Option.some.inj h).symm
  refine ⟨⟨Same.refl _, fun a u h => keep (sm _ _ h) (ne_of_none h p0), fun a u n _ h h0 => ⟨keep h n, h0⟩, fun a u nt h => ?_⟩, ⟨p0, upd_same, hl⟩, fun q hq => ?_, pn⟩
  · by_cases e : a = c.pa
    · subst e
      exact ⟨_, fun _ z => (by cases z), upd_same⟩
    · exact ⟨u, nt, keep h e⟩
  · obtain ⟨ps, t1, t2, t3⟩ := pt q hq
    refine ⟨ps, keep t1 (npa t1 fun _ z => by cases z), t2, fun pos cv hc => ?_⟩
    obtain ⟨c', e1, e2⟩ := t3 pos cv hc
    exact ⟨c', e1, e2⟩
theorem drawE_int {many : Int} {s : PenSt} : ∃ v st', drawE many s = .ok (.int v) st' := by
  unfold drawE
  split
  · exact ⟨_, _, rfl⟩
  · exact ⟨_, _, rfl⟩
/-- what a def's promise asks, answered by the reading -/
theorem draw_fin {f : Cf} {E : XK} {H0 H : Hp} {st : PenSt} {vs : List V} {ds : List D} {Q : VK} {K : PySem.W.Frag} (sm : Same H0 H) (pen : PenAt f.c H0 H st) (rr : Reps f.c H0 vs ds) (q : Fin f E (hardP f.c) H0 H (drawF ds st) Q) : t_draw K { nx := fun _ H' => Q .non H', rt := Q } (L2.start ["pen", "many", "cell", "digit", "blend"] vs) H := by
  unfold drawF at q
  split at q
  · rename_i many
    split at q
    · rename_i hh
      have hvs : vs = [.ref f.c.pa, .int many] := by
        cases rr with
        | cons r1 r2 =>
          cases r2 with
          | cons r2 r3 =>
            cases r3
            cases r1
            cases r2
            rfl
      subst hvs
      refine pure_draw sm pen hh.1 hh.2.1 hh.2.2 fun v st' hv hla => ?_
      rw [hv] at q
      obtain ⟨g, p⟩ := pen_upd sm pen hla
      exact q (.int v) H0 _ g p (.int v)
    · exact q.elim
  · exact q.elim
/-! ### the pen is laid -/
def foldS (a : Int) (cells : List Int) : Int := cells.foldl (fun x c => (x * 59 + c).fmod 1000000009) a
def pen0 (cells : List Int) : PenSt := ⟨cells, 0, 0, 0, foldS 0 cells⟩
def t_pen (K : PySem.W.Frag) : TS :=
  tSeq (tAsg (cI 0) (gName 1))
  (tSeq (tFor (iList K (tVar 0)) (gName 2) (tAsg (tOp rMod (tCB rInt1 (tCons (tOp rAdd (tOp rMul (tVar 1) (cI 59)) (tVar 2)) tNil)) (cI 1000000009)) (gName 1)))
  (tRet (tDisp [(kS "cells", tCB (fun xs H Q => ∃ a ys, xs = [.ref a] ∧ (SqL K H a ys ∨ SqT K H a ys) ∧ ∀ l, H l = none → Q (.ref l) (upd H l (.lst ys))) (tCons (tVar 0) tNil)), (kS "at", cI 0), (kS "digits", cI 0), (kS "count", cI 0), (kS "fold", tVar 1)])))
theorem foldS_take {ns : List Int} {i : Nat} {z : Int} (h : ns[i]? = some z) : foldS 0 (ns.take (i + 1)) = (foldS 0 (ns.take i) * 59 + z).fmod 1000000009 := by
  unfold foldS
  rw [List.take_add_one, h, List.foldl_append]
  rfl
theorem foldS_pos (ns : List Int) : 0 ≤ foldS 0 ns ∧ foldS 0 ns < 1000000009 := by
  have : ∀ (l : List Int) (a : Int), 0 ≤ a ∧ a < 1000000009 → 0 ≤ foldS a l ∧ foldS a l < 1000000009 := by
    intro l
    induction l with
    | nil => intro a h; exact h
    | cons c l ih =>
      intro a _
      exact ih _ ⟨Int.fmod_nonneg_of_pos _ (by decide), Int.fmod_lt_of_pos _ (by decide)⟩
  exact this ns 0 (by decide)
theorem pen0_ok (ns : List Int) : (pen0 ns).ok = true := by
  unfold PenSt.ok pen0
  have := foldS_pos ns
  simp only [decide_eq_true_eq]
  exact ⟨this.1, by omega, by decide⟩
/-- where the new pen stands -/
def penH (H : Hp) (p la : Addr) (ns : List Int) : Hp := upd (upd (upd H p (.dK [])) la (.lst (ns.map V.int))) p (.dK (penKV la (pen0 ns)))
theorem pure_pen {K : PySem.W.Frag} {H : Hp} {a : Addr} {ns : List Int} {Q : VK} (hS : SqL K H a (ns.map V.int)) (q : ∀ p la, H p = none → H la = none → la ≠ p → Q (.ref p) (penH H p la ns)) : t_pen K { nx := fun _ H' => Q .non H', rt := Q } (L2.start ["script", "fold", "cell"] [.ref a]) H := by
  unfold t_pen
  refine ⟨_, rfl, a, rfl, ⟨_, hS⟩, ?_⟩
  refine for_list (xs := ns.map V.int) (fun i σ H' => H' = H ∧ σ[0]? = some (some (.ref a)) ∧ σ[1]? = some (some (.int (foldS 0 (ns.take i)))) ∧ σ.length = 3) ⟨rfl, rfl, rfl, rfl⟩ (fun i σ H' _ h => by rw [h.1]; exact hS) (fun i x σ H' hx h => ?_) (fun σ H' h => ?_)
  · obtain ⟨rfl, h0, h1, hl⟩ := h
    rw [List.getElem?_map] at hx
    obtain ⟨z, hz, rfl⟩ := Option.map_eq_some_iff.mp hx
    have e0 : (σ.set 2 (some (V.int z)))[0]? = some (some (.ref a)) := by rw [List.getElem?_set_ne (by decide)]; exact h0
    have e1 : (σ.set 2 (some (V.int z)))[1]? = some (some (.int (foldS 0 (ns.take i)))) := by rw [List.getElem?_set_ne (by decide)]; exact h1
    have e2 : (σ.set 2 (some (V.int z)))[2]? = some (some (.int z)) := List.getElem?_set_self (by omega)
    refine ⟨_, e1, _, _, rfl, rfl, .inr ⟨by decide, by decide⟩, _, e2, _, _, rfl, rfl, .inl ⟨_, rfl, _, _, rfl, rfl, (show (1000000009 : Int) ≠ 0 by decide), rfl, ?_, ?_, ?_⟩⟩
    · rw [List.getElem?_set_ne (by decide)]; exact e0
    · rw [List.getElem?_set_self (by rw [List.length_set]; omega), foldS_take hz]
    · rw [List.length_set, List.length_set]; exact hl
  · obtain ⟨rfl, h0, h1, hl⟩ := h
    rw [List.length_map, List.take_length] at h1
    intro p hp
    refine ⟨.ref a, h0, a, _, rfl, .inl (?_ : SqL K (upd H' p (.dK [])) a (ns.map V.int)), fun la hla => ⟨_, h1, ?_⟩⟩
    · refine Same.seq (fun b o e => ?_) hS
      rw [upd_ne (ne_of_none e hp)]
      exact e
    · have hne : la ≠ p := fun z => by
        subst z
        rw [upd_same] at hla
        cases hla
      rw [upd_ne hne] at hla
      refine ⟨by rw [upd_ne (Ne.symm hne), upd_same], penKV la (pen0 ns), rfl, (by show 5 ≤ 15; decide), q p la hp hla hne⟩
end VC
set_option Elab.async false
set_option linter.all false
set_option maxRecDepth 100000
set_option maxHeartbeats 1000000
/-! VCv: exceptions are made. -/
namespace VC
open PySem PySem.Spec PyProof.Rows L2
/-- what is known of the base class whose __init__ is called by its name -/
structure BaseI (K : PySem.W.Frag) (C : Addr) : Prop where
  ga : PySem.W.specialIn K (.ref C) "__getattribute__" = some (some (.builtin "type.__getattribute__"))
  rd : PySem.W.readsIn K C (.type "type") = true
  fi : PySem.W.findCls K (.ref C) (.type "type") "__init__" = some (.val (.builtin "ValueError.__init__"))
section
variable {X : Cx} {e : Expr} {es : List Expr} {ta : TA} {x : Str} {C : Addr} {p1 p2 pos : Pos}
theorem pe_baseinit {pl : Sem Bool} (hg : Gl X x) (hm : X.mg x = some (.ref C)) (b : BaseI X.K C) (hd : (x == ("__debug__" : Str)) = false) (ha : PA X (e :: es) ta)
    (hc : eval (.Call (.Attribute (.Name x p1) "__init__" p2) (e :: es) [] pos) X.env = (do
      let ov ← eval (.Name x p1) X.env
      standAt p2.atName
      let (f, first) ← holding [ov] (getMethod ov "__init__" pl)
      callWith pos f first (backTo pos (starEach (e :: es) X.env)) (backToKw pos (keywordEach [] X.env))) := by rfl)
    (he : starEach (e :: es) X.env = (false, eval e X.env) :: starEach es X.env := by rfl) (hpl : (backTo pos (starEach es X.env)).any (·.1) = false := by rfl) :
    PE X (.Call (.Attribute (.Name x p1) "__init__" p2) (e :: es) [] pos) (tVeI X.K ta) := by
  constructor
  intro pins s σ H Q I h
  refine PySem.W.methodCall_KW (ld_glob I hg hm ?_ hd) hc
  refine PySem.W.method_cls I.kIn b.ga (PySem.W.cls_value I.kIn b.rd b.fi (by decide +kernel) ?_)
  show wpAny _ _ (callWith pos (Value.builtin "ValueError.__init__") [] (backTo pos (starEach (e :: es) X.env)) []) _ _ _
  refine PyProof.Rows.callWith_method1 (thn (ha.run pos pins _ σ H _ (I.tok _) h) fun us s1 hus => ?_) he hpl
  obtain ⟨vs, H1, I1, r1, a, C', ws, ev, hl, T, ea, q⟩ := hus
  subst ev
  cases r1 with
  | @cons _ u0 _ ur ra rw' =>
    have h0 : u0 = Value.ref a := ra
    subst h0
    have hlen : ur.length ≤ sizeLine := by
      rw [← Paired.length rw', sizeLine_eq]
      omega
    exact oinit_ok T I1 ea hlen fun s' J => ⟨.non, H1, J, rfl, q⟩
end
def t_sets (K : PySem.W.Frag) : Nat → List String → TS
  | _, [] => tNext
  | i, n :: ns => tSeq (tOst K (Str.ofString n) (tVar 0) (tVar i)) (t_sets K (i + 1) ns)
def t_init (K : PySem.W.Frag) (text : Str) (names : List String) : TS := tSeq (tDrop (tVeI K (tCons (tVar 0) (tCons (L2.tC (.str text)) tNil)))) (t_sets K 1 names)
theorem pure_sets {K : PySem.W.Frag} {C a dx : Addr} (T : OexC K C) {D' : Ends} {σ : L2.St} : ∀ {names : List String} {ws : List V} {i : Nat} {fs : List (Str × V)} {H : Hp}, (∀ n ∈ names, PySem.W.findIn K (.ref C) (Str.ofString n) = some none) → names.length = ws.length → (∀ (j : Nat) v, ws[j]? = some v → σ[i + j]? = some (some v)) → σ[0]? = some (some (.ref a)) → a ≠ dx →
    H a = some (exo a C (some dx)) → H dx = some (exd dx fs) → fs.length + names.length ≤ 800 → (∀ H', (∀ b, b ≠ dx → H' b = H b) → H' dx = some (exd dx (fldsOf names ws fs)) → D'.nx σ H') → t_sets K i names D' σ H
  | [], [], i, fs, H, _, _, _, _, _, _, hd, _, q => q H (fun _ _ => rfl) hd
  | n :: ns, w :: ws, i, fs, H, hf, hl, hw, h0, hne, ha, hd, hz, q => by
    simp only [List.length_cons] at hz
    refine ⟨w, (by simpa using hw 0 w rfl), _, h0, a, C, rfl, T, hf n List.mem_cons_self, .inr ⟨dx, fs, ha, hd, by omega, ?_⟩⟩
    refine pure_sets T (names := ns) (ws := ws) (fs := (Str.ofString n, w) :: fs) (fun m hm => hf m (List.mem_cons_of_mem _ hm)) (by simpa using hl) (fun j v e => by rw [show i + 1 + j = i + (j + 1) by omega]; exact hw (j + 1) v (by simpa using e)) h0 hne (by rw [upd_ne hne]; exact ha) upd_same (by simp only [List.length_cons]; omega) fun H' h1 h2 => q H' (fun b hb => by rw [h1 b hb, upd_ne hb]) h2
  | [], _ :: _, _, _, _, _, hl, _, _, _, _, _, _, _ => by cases hl
  | _ :: _, [], _, _, _, _, hl, _, _, _, _, _, _, _ => by cases hl
theorem pure_init {K : PySem.W.Frag} {C : Addr} {names : List String} {vs : List V} {H : Hp} {Q : VK} {E : XK} {text : Str} {N : List Str} (T : OexC K C) (hf : ∀ n ∈ names, PySem.W.findIn K (.ref C) (Str.ofString n) = some none) (hn : names ≠ []) (hz : names.length ≤ 500) (h : spI C names vs H Q E) :
    t_init K text names { nx := fun _ H' => Q .non H', rt := Q } (L2.start N vs) H := by
  obtain ⟨a, ws, rfl, hl, ha, _, q⟩ := h
  have h0 : (L2.start N (.ref a :: ws))[0]? = some (some (.ref a)) := rfl
  have hw : ∀ (j : Nat) v, ws[j]? = some v → (L2.start N (.ref a :: ws))[1 + j]? = some (some v) := fun j v e => by
    unfold L2.start
    have hj := (List.getElem?_eq_some_iff.mp e).1
    rw [List.getElem?_append_left (by simp; omega), List.getElem?_map, Nat.add_comm, List.getElem?_cons_succ, e]
    rfl
  refine ⟨_, h0, a, C, _, rfl, (by show 1 ≤ 1000; decide), T, ha, ?_⟩
  match names, ws, hl, hn with
  | n :: ns, w :: ws, hl, _ =>
    simp only [List.length_cons] at hz
    refine ⟨w, hw 0 w rfl, _, h0, a, C, rfl, T, hf n List.mem_cons_self, .inl ⟨ha, fun dx hd hne => ?_⟩⟩
    have hq := q (by simp) dx hd hne
    refine pure_sets T (dx := dx) (a := a) (names := ns) (ws := ws) (fs := [(Str.ofString n, w)]) (fun m hm => hf m (List.mem_cons_of_mem _ hm)) (by simpa using hl.symm) (fun j v e => by rw [show 2 + j = 1 + (j + 1) by omega]; exact hw (j + 1) v (by simpa using e)) h0 (Ne.symm hne) upd_same (by rw [upd_ne hne, upd_same]) (by simp only [List.length_cons, List.length_nil]; omega) fun H' h1 h2 => ?_
    have e : H' = upd (upd H dx (exd dx (fldsOf (n :: ns) (w :: ws) []))) a (exo a C (some dx)) := by
      funext b
      by_cases eb : b = dx
      · subst eb
        rw [h2, upd_ne hne, upd_same]
        rfl
      · rw [h1 b eb]
        by_cases ea : b = a
        · subst ea
          rw [upd_same, upd_same]
        · rw [upd_ne ea, upd_ne ea, upd_ne eb, upd_ne eb]
    show Q .non H'
    rw [e]
    exact hq
theorem pure_init0 {K : PySem.W.Frag} {C : Addr} {vs : List V} {H : Hp} {Q : VK} {E : XK} {text : Str} {N : List Str} (T : OexC K C) (h : spI C [] vs H Q E) :
    t_init K text [] { nx := fun _ H' => Q .non H', rt := Q } (L2.start N vs) H := by
  obtain ⟨a, ws, rfl, hl, ha, q, _⟩ := h
  exact ⟨_, rfl, a, C, _, rfl, (by show 1 ≤ 1000; decide), T, ha, q rfl⟩
end VC
set_option Elab.async false
set_option linter.all false
set_option maxRecDepth 100000
set_option maxHeartbeats 1000000
/-! VCta: a def in which lambdas are kept: its configuration is hot; what it calls is handed no lambda. -/
namespace VC
open PySem PySem.Spec PyProof.Rows L2
def hotC (c : Cfg) (lo : Nat → Addr → Obj → Prop) (lc : Addr → HO) : Cfg := { c with hot := true, lo := lo, lc := lc }
section
variable {c : Cfg} {lo : Nat → Addr → Obj → Prop} {lc : Addr → HO} {H : Hp}
mutual
theorem Rep.up (hc : c.hot = false) : ∀ {v : V} {d : D}, Rep c H v d → Rep (hotC c lo lc) H v d
  | _, _, .non => .non
  | _, _, .bl b => .bl b
  | _, _, .int i => .int i
  | _, _, .str s => .str s
  | _, _, .tup h z r => .tup h z (Reps.up hc r)
  | _, _, .lst h z r => .lst h z (Reps.up hc r)
  | _, _, .dic h r => .dic h (RepKs.up hc r)
  | _, _, .obj x h u f r => .obj x h u f (Reps.up hc r)
  | _, _, .exc x h hd u f r => .exc x h hd u f (Reps.up hc r)
  | _, _, .exc0 x h u f => .exc0 x h u f
  | _, _, .pen => Rep.pen (c := hotC c lo lc)
  | _, _, .lam hh _ _ _ => by rw [hc] at hh; cases hh
theorem Reps.up (hc : c.hot = false) : ∀ {vs : List V} {ds : List D}, Reps c H vs ds → Reps (hotC c lo lc) H vs ds
  | _, _, .nil => .nil
  | _, _, .cons h r => .cons (Rep.up hc h) (Reps.up hc r)
theorem RepKs.up (hc : c.hot = false) : ∀ {vs : List (Key × V)} {ds : List (Key × D)}, RepKs c H vs ds → RepKs (hotC c lo lc) H vs ds
  | _, _, .nil => .nil
  | _, _, .cons h r => .cons (Rep.up hc h) (RepKs.up hc r)
end
mutual
theorem Rep.down : ∀ {v : V} {d : D}, Rep (hotC c lo lc) H v d → d.still = true → Rep c H v d
  | _, _, .non, _ => .non
  | _, _, .bl b, _ => .bl b
  | _, _, .int i, _ => .int i
  | _, _, .str s, _ => .str s
  | _, _, .tup h z r, e => .tup h z (Reps.down r (by simpa [D.still] using e))
  | _, _, .lst h z r, e => .lst h z (Reps.down r (by simpa [D.still] using e))
  | _, _, .dic h r, e => .dic h (RepKs.down r (by simpa [D.still] using e))
  | _, _, .obj x h u f r, e => .obj x h u f (Reps.down r (by simpa [D.still] using e))
  | _, _, .exc x h hd u f r, e => .exc x h hd u f (Reps.down r (by simpa [D.still] using e))
  | _, _, .exc0 x h u f, e => .exc0 x h u f
  | _, _, .pen, _ => Rep.pen (c := c)
  | _, _, .lam _ _ _ _, e => by cases e
theorem Reps.down : ∀ {vs : List V} {ds : List D}, Reps (hotC c lo lc) H vs ds → stills ds = true → Reps c H vs ds
  | _, _, .nil, _ => .nil
  | _, _, .cons h r, e => by
    simp only [stills, Bool.and_eq_true] at e
    exact .cons (Rep.down h e.1) (Reps.down r e.2)
theorem RepKs.down : ∀ {vs : List (Key × V)} {ds : List (Key × D)}, RepKs (hotC c lo lc) H vs ds → stillkvs ds = true → RepKs c H vs ds
  | _, _, .nil, _ => .nil
  | _, _, .cons h r, e => by
    simp only [stillkvs, Bool.and_eq_true] at e
    exact .cons (Rep.down h e.1) (RepKs.down r e.2)
end
end
def Cf.hotIn (f : Cf) (X : Cx) (t : Tab) : Cf := { f with c := hotC f.c (LamAt X t) fun c' => LamX.CodeO c' (X.env.qual ++ "<lambda>") }
def Tab.warm (t : Tab) : Tab := { t with Phi := fun n l => if stills l then t.Phi n l else M.bad, hasI := fun _ => false, hasQ := fun _ => false, hasF := fun _ => false }
def Tab.wrapL (t : Tab) (N : List Str) (used : Nat → Bool) (bs : VC.E) : Tab := { t.warm with hasL := true, lams := bs, lamB := lamStd N used t.warm bs }
section
variable {X : Cx} {f : Cf} {t t' : Tab}
theorem Fin.cool {E : XK} {H0 H : Hp} {r : Res D} {Q : VK} (hc : f.c.hot = false) (h : Fin (f.hotIn X t') E (hardP (f.hotIn X t').c) H0 H r Q) : Fin f E (hardP f.c) H0 H r Q := by
  cases r with
  | ok a st => exact fun w H0' H' g p q => h w H0' H' ⟨g.fast, g.sub, g.old, g.dom⟩ ⟨p.pen, p.tabs, p.nt⟩ (Rep.up hc q)
  | err e st =>
    intro cls dd H0' H' g p ea
    obtain ⟨a1, dx, fs, vs, a2, a3, a4, a5, a6, a7⟩ := ea
    exact h cls dd H0' H' ⟨g.fast, g.sub, g.old, g.dom⟩ ⟨p.pen, p.tabs, p.nt⟩ ⟨a1, dx, fs, vs, a2, a3, a4, a5, a6, Reps.up hc a7⟩
  | bad => exact h
theorem spF_cool {n m : Nat} {vs : List V} {H : Hp} {Q : VK} {E : XK} (hc : f.c.hot = false) (h : spF (f.hotIn X t') n (t.warm.Phi m) vs H Q E) : spF f n (t.Phi m) vs H Q E := by
  obtain ⟨H0, ds, st, sm, pen, rr, hl, q⟩ := h
  have q : Fin (f.hotIn X t') E (hardP (f.hotIn X t').c) H0 H ((if stills ds = true then t.Phi m ds else M.bad) st) Q := q
  by_cases hs : stills ds = true
  · rw [if_pos hs] at q
    exact ⟨H0, ds, st, sm, ⟨pen.pen, pen.tabs, pen.nt⟩, Reps.down rr hs, hl, Fin.cool hc q⟩
  · rw [if_neg hs] at q
    exact q.elim
theorem FnG.imp {P : Program} {w : World} {K : PySem.W.Frag} {mg : Str → Option Value} {base : Heap} {k : Nat} {fa : Addr} {fd : FuncData} {ps : List Str} {sp sp' : Sp} (G : FnG P w K mg base k fa fd ps sp) (h : ∀ vs H Q E, sp' vs H Q E → sp vs H Q E) : FnG P w K mg base k fa fd ps sp' :=
  ⟨fun vs H Q E z => G.len vs H Q E (h _ _ _ _ z), fun A outer s H args us vs Q E hg hr e0 hb rv z => G.run A outer s H args us vs Q E hg hr e0 hb rv (h _ _ _ _ z)⟩
theorem Base.hot {P : Program} {w : World} {mg : Str → Option Value} {base : Heap} {k : Nat} (B : Base P w mg base f t k) (hc : f.c.hot = false) : Base P w mg base (f.hotIn X t') t.warm k := by
  refine ⟨fun n hn => ?_, B.blt, B.gcd, B.objs, B.cls, B.isi, B.fld, B.exc, B.mkx, fun _ z => (nomatch z), fun _ z => (nomatch z), fun _ z => (nomatch z)⟩
  obtain ⟨fa, fd, ps, h1, h2, h3, h4, h5⟩ := B.fns n hn
  refine ⟨fa, fd, ps, h1, h2, h3.imp fun vs H Q E z => spF_cool hc z, h4, fun l st z => ?_⟩
  have z : (if stills l = true then t.Phi n l else M.bad) st ≠ .bad := z
  by_cases hs : stills l = true
  · rw [if_pos hs] at z
    exact h5 l st z
  · rw [if_neg hs] at z
    exact absurd rfl z
theorem CatAt.hot {N : List Str} {used : Nat → Bool} {bs : VC.E} (hc : f.c.hot = false) (h : CatAt X f t) : CatAt X (f.hotIn X t') (t.wrapL N used bs) := by
  obtain ⟨g, cdg, sg, bg, a, n, cs, cAd, P, k, pg, dV, kV, doc, pm, ct, oc, an, od, osl, h1, h2, h3, h4, h5, h6, h7, h8, h9, h10, h11, h12, h13⟩ := h
  have B := Base.hot (X := X) (t' := t') h13 hc
  exact ⟨g, cdg, sg, bg, a, n, cs, cAd, P, k, pg, dV, kV, doc, pm, ct, oc, an, od, osl, h1, h2, h3, h4, h5, ⟨h6.body, h6.scope, h6.loc, h6.vis, h6.nd1, h6.nd2⟩, ⟨h7.tag, h7.all, h7.exm, h7.few⟩, h8, h9, h10, h11, h12, ⟨B.fns, B.blt, B.gcd, B.objs, B.cls, B.isi, B.fld, B.exc, B.mkx, B.mki, B.eqs, B.frs⟩⟩
end
section
variable {P : Program} {w : World} {mg : Str → Option Value} {base : Heap} {f : Cf} {t : Tab} {k : Nat}
/-- a hot def's context -/
theorem Base.okL (B : Base P w mg base f t k) (hc : f.c.hot = false) (hC : t.hasC = true) {N ps : List Str} {qual : Str} {scope : Scope} {fa : Addr} {cdv : Value} {A : Around} {outer : List PySem.Env} {s : Shared} {H : Hp} {E : XK} {bs : VC.E} (S : FnScope N ps scope) (hg : A.guards = some []) (hr : Room (k + 1) (A.deeper (envOfC qual scope s.heap.objs.size fa cdv))) (hcat : CatAt (bodyCx P w f mg base N qual scope fa cdv A outer s H E) f t)
    (hgat : ∀ g, t.hasG g = true → GAt (bodyCx P w f mg base N qual scope fa cdv A outer s H E) (f.hotIn (bodyCx P w f mg base N qual scope fa cdv A outer s H E) (t.wrapL N f.c.used bs)) (t.wrapL N f.c.used bs) g) :
    OkR (bodyCx P w f mg base N qual scope fa cdv A outer s H E) (f.hotIn (bodyCx P w f mg base N qual scope fa cdv A outer s H E) (t.wrapL N f.c.used bs)) (t.wrapL N f.c.used bs) E := by
  have B1 := Base.hot (X := bodyCx P w f mg base N qual scope fa cdv A outer s H E) (t' := t.wrapL N f.c.used bs) B hc
  have B2 : Base P w mg base (f.hotIn (bodyCx P w f mg base N qual scope fa cdv A outer s H E) (t.wrapL N f.c.used bs)) (t.wrapL N f.c.used bs) k := ⟨B1.fns, B1.blt, B1.gcd, B1.objs, B1.cls, B1.isi, B1.fld, B1.exc, B1.mkx, B1.mki, B1.eqs, B1.frs⟩
  refine B2.okR S hg hr (fun _ => hcat.hot hc) fun _ => ⟨hC, rfl, rfl, rfl, hgat, fun kk params body sc h => ?_⟩
  have h : (match nthE bs kk with
    | some e => LamX.lamSB scope sc && noPar params && chk N f.c.used t.warm.cold e sc body
    | none => false) = true := h
  cases e : nthE bs kk with
  | none =>
    rw [e] at h
    cases h
  | some a =>
    rw [e] at h
    simp only [Bool.and_eq_true] at h
    exact ⟨a, e, h.1.1, h.1.2, h.2⟩
end
end VC
set_option Elab.async false
set_option linter.all false
set_option maxRecDepth 100000
set_option maxHeartbeats 1000000
/-! VCtb: a def `fault = <catcher>(<its first parameter>); return <e>`, handed a lambda of X's. -/
namespace VC
open PySem PySem.Spec PyProof.Rows L2
/-- what such a def computes of the fault and the other values -/
def gF (t : Tab) (np n : Nat) (F : Flds) (e : VC.E) : List D → M D
  | v :: ds => if ds.length + 1 = np then ev t.warm.Phi F e (((SD.no :: ds.map SD.val) ++ List.replicate (n - (ds.length + 1)) SD.no).set np (SD.val v)) else M.bad
  | [] => M.bad
section
variable {X : Cx} {f : Cf} {t : Tab}
/-- what the call asks -/
def tGc (f : Cf) (t : Tab) (σX : L2.St) : TE := fun σ H' Q => ∃ (lv : V) (H0 : Hp) (ρX : Env) (st st1 : PenSt) (j : Nat) (v : D), σ[0]? = some (some lv) ∧ Rel f.c H0 H' σX ρX st ∧ Rep f.c H0 lv (.lam j) ∧ M.fault f.c.F (evn t.Phi f.c.F t.lams j ρX) st = .ok v st1 ∧ ∀ w K1 K, Grow f.c H0 H' K1 K → PenAt f.c K1 K st1 → Rep f.c K1 w v → Q w K
variable {x a n a0 qg : Str} {g ga : Addr} {cdg cdv : Value} {sg sc2 : Scope} {bg : List Stmt} {cs : List (Nat × String)} {k : Nat} {pg : Arguments} {dV kV doc pm ct oc : Value} {an od : Option Addr} {osl : Array (Option Value)} {p p2 pos : Pos} {Ng : List Str}
theorem s_catchG {σX : L2.St} {s0 : Shared} {H0s : Hp} {Y : Cx} (hYe : Y = cxOf (fun _ _ _ _ _ _ => False) X.prog X.w X.K X.mg X.base Ng qg sc2 ga cdv X.A X.stack s0 H0s (fun _ _ _ => False)) (kc : KC X σX H0s s0.heap) (hlo : f.c.lo = LamAt X t) (hlc : f.c.lc = fun c' => LamX.CodeO c' (X.env.qual ++ "<lambda>"))
    (std : ∀ k params body scope, t.lamB k X.env.scope params body scope = true → ∃ e, nthE t.lams k = some e ∧ LamX.lamSB X.env.scope scope = true ∧ noPar params = true ∧ chk X.N f.c.used t.cold e scope body = true)
    (hg : Gl Y x) (hd : (x == ("__debug__" : Str)) = false) (hm : X.mg x = some (.ref g)) (hk : PySem.W.keepIn X.K (.ref g) = true) (lk : X.K.lookup g = some ⟨oc, od, .func (PySem.W.fnOf x x pg bg sg dV kV doc pm an cdg ct), osl⟩) (hcg : PySem.W.codeIn X.K cdg x = true)
    (hb : L2.Binds X.K (PySem.W.fnOf x x pg bg sg dV kV doc pm an cdg ct) [a] []) (C : Catcher Y f x g cdg sg bg a n cs) (T : Tags f X.K cs) (hr : Room (k + 2) Y.A) (hK : X.K = f.c.K) (hnd : X.N.Nodup) (hgd : X.A.guards = some []) (B : Base X.prog X.w X.mg X.base f t.cold k)
    (h0 : Ng[0]? = some a0) (hv : Vis sc2 a0) (d1 : (a0 == ("__debug__" : Str)) = false) (d2 : (a0 == ("__classdict__" : Str)) = false) :
    PE Y (.Call (.Name x p) [.Name a0 p2] [] pos) (tGc f t σX) := by
  subst hYe
  constructor
  intro pinsY s2 σ H' Q IY h
  obtain ⟨lv, H0, ρX, st, st1, j, v, hσ, rel, rl, ef, q⟩ := h
  refine wpAny_Call_Name_kw (ld_glob IY hg hm ?_ hd)
  refine PySem.W.callWith_K (h₀ := X.base) IY.ok.mod.kin hk ?_ (by rfl) (by rfl)
  show wpAny _ _ (spliced ((false, eval (.Name a0 p2) _) :: backTo pos (starEach [] _))) _ _ s2
  refine Calls.spliced_cons (thn ((pe_var (pos := p2) (i := 0) h0 hv d1 d2).run pinsY s2 σ H' (fun v H1 => v = lv ∧ H1 = H') IY ⟨lv, hσ, rfl, rfl⟩) fun u s1 hu => ?_)
  obtain ⟨v', H1, I1, rv, e1, e2⟩ := hu
  subst e1 e2
  cases rl with
  | @lam l c' kk ob hot hl hlo' hlc' =>
    obtain rfl : u = Value.ref l := rv
    refine Calls.spliced_nil ⟨I1.kIn, ?_⟩
    rw [hlo] at hlo'
    rw [hlc] at hlc'
    obtain ⟨params, body, scope, pm', ctv, hB, rfl⟩ := hlo'
    obtain ⟨e, he, hL, hp, hck⟩ := std _ _ _ _ hB
    have L := LamX.lamS_by hL
    obtain rfl : params = ⟨[], [], none, [], [], none, []⟩ := by
      unfold noPar at hp
      split at hp
      · rfl
      · cases hp
    have hev : evn t.Phi f.c.F t.lams j ρX = ev t.Phi f.c.F e ρX := evn_at he
    rw [hev] at ef
    have kc1 : KC X σX H1 s1.heap := kc.keep I1.base fun _ c _ z => nomatch (show c ∈ ([] : List Addr) from z)
    refine wpAny_call (codeAny_mono (catch_any (X := X) (params := ⟨[], [], none, [], [], none, []⟩) (t := t) (W := E0) lk hcg hb C ⟨rfl, rfl, rfl, rfl, rfl, rfl, rfl⟩ T hr L (fun _ _ _ _ _ => rfl) (fun A outer s H E l c' hA hr2 => ?_) I1.env0 kc1 I1.kIn rel hl (fun h z => z) hlc' (fin_res (Q := Q) ef q)) fun r s2 hq => ?_)
    · have tk : Takes (LamX.lamCx X A outer s H E scope l c') (fun cls d _ H => E cls d H) := takes_of rfl rfl rfl rfl
      have ok : Ok (LamX.lamCx X A outer s H E scope l c') f t.cold E := Base.ok (t := t.cold) B rfl rfl hK rfl rfl rfl hnd (hA.trans hgd) hr2 (.inl rfl) (passes_call tk fun _ _ _ _ h => h) (fun z => nomatch z)
      exact (good e).pe (t := t.cold) ok hck
    · cases r with
      | error e => exact (show False from hq).elim
      | ok fl =>
        cases fl with
        | ret u => exact I1.after hq
        | next => exact False.elim hq
        | brk => exact False.elim hq
        | cont => exact False.elim hq
end
section
variable {P : Program} {w : World} {mg : Str → Option Value} {base : Heap} {f : Cf} {t t0 : Tab} {k : Nat}
theorem set_swap {α : Type} {x y z : α} {l : List α} {n : Nat} (h : 0 < n) : ((x :: l).set n y).set 0 z = (z :: l).set n y := by
  cases n with
  | zero => omega
  | succ n => rfl
theorem EnvOk.no0 {c : Cfg} {H0 H : Hp} {σ : L2.St} {ρ : Env} (h : EnvOk c H0 H σ ρ) : EnvOk c H0 H σ (ρ.set 0 .no) := by
  cases σ with
  | nil =>
    have := h.len
    cases ρ with
    | nil => exact h
    | cons _ _ => cases this
  | cons s σ => exact h.setNo 0 (s := s)
theorem gat_ok {X : Cx} {n : Nat} {qg x a0 fl ca cn : Str} {pg pgc : Arguments} {sg sgc : Scope} {kws : List (Str × V)} {ga gc : Addr} {fdg : FuncData} {Ng ps : List Str} {p1 p2 p3 p4 p5 p6 : Pos} {e : VC.E} {re : Expr} {cs : List (Nat × String)} {bgc : List Stmt} {cdg ocg dVg kVg docg pmg ctg : Value} {ang odg : Option Addr} {oslg : Array (Option Value)}
    (e1 : X.prog = P) (e2 : X.w = w) (e3 : X.K = f.c.K) (e4 : X.mg = mg) (e5 : X.base = base) (hnd : X.N.Nodup) (hgd : X.A.guards = some []) (hr : Room (k + 5) X.A) (hot : f.c.hot = true) (hlo : f.c.lo = LamAt X t) (hlc : f.c.lc = fun c' => LamX.CodeO c' (X.env.qual ++ "<lambda>"))
    (std : ∀ k params body scope, t.lamB k X.env.scope params body scope = true → ∃ e, nthE t.lams k = some e ∧ LamX.lamSB X.env.scope scope = true ∧ noPar params = true ∧ chk X.N f.c.used t.cold e scope body = true)
    (F : FunD f.c.K x qg pg [.Assign [.Name fl p1] (.Call (.Name cn p2) [.Name a0 p3] [] p4) p5, .Return (some re) p6] sg [] kws ga fdg) (S : FnScope Ng ps sg) (hb : Binds f.c.K fdg ps []) (hm : mg (Str.ofString (t.nm n)) = some (.ref ga))
    (h0 : Ng[0]? = some a0) (hv : Vis sg a0) (d1 : (a0 == ("__debug__" : Str)) = false) (d2 : (a0 == ("__classdict__" : Str)) = false) (hfl : Ng[ps.length]? = some fl) (hloc : sg.names.lookup fl = some .local) (hgl : sg.names.lookup cn = some .globalImplicit) (hcd : (cn == ("__debug__" : Str)) = false)
    (hmc : mg cn = some (.ref gc)) (hkc : PySem.W.keepIn f.c.K (.ref gc) = true) (lkc : f.c.K.lookup gc = some ⟨ocg, odg, .func (PySem.W.fnOf cn cn pgc bgc sgc dVg kVg docg pmg ang cdg ctg), oslg⟩) (hcg : PySem.W.codeIn f.c.K cdg cn = true) (hbc : L2.Binds f.c.K (PySem.W.fnOf cn cn pgc bgc sgc dVg kVg docg pmg ang cdg ctg) [ca] [])
    (C : ∀ Y : Cx, Y.K = f.c.K → Y.mg = mg → ∃ nn, Catcher Y f cn gc cdg sgc bgc ca nn cs) (T : Tags f f.c.K cs) (B : Base P w mg base f t.cold k) (B0 : Base P w mg base f t0.warm k) (hck : chk Ng f.c.used t0.warm.cold e sg re = true) (nb : isBor e = false)
    (hPhi : ∀ v ds st y st', t.Phi n (v :: ds) st = .ok y st' → gF t0 ps.length Ng.length f.c.F e (v :: ds) st = .ok y st') : GAt X f t n := by
  subst e1 e2 e4 e5
  obtain ⟨oc, od, dV, kV, doc, pm, an, cdv, ct, osl, rfl, lk, hcdv, _, _⟩ := F.ex
  refine ⟨ga, hm, by rw [e3]; exact F.kp, fun s' H0 H1 σX ρX st st' Q l us vs j ds y ee kin kc rel rl rr rv hel q => ?_⟩
  obtain ⟨fv, st1, ef, eg⟩ := bind_ok hel
  have eg := hPhi _ _ _ _ _ eg
  simp only [gF] at eg
  · split at eg
    · rename_i hlen
      have hlv : vs.length = ds.length := rr.length
      have hlu : (l :: vs).length = ps.length := by rw [List.length_cons, hlv]; exact hlen
      have hlus : us.length = ps.length := by rw [← rv.length]; exact hlu
      have hbs := hb s' us (by rw [← e3]; exact kin) (by rw [List.append_nil]; exact hlus)
      rw [List.append_nil] at hbs
      rw [e3] at ee
      refine LamX.run_ofS (N := Ng) (ps := ps) (us := us) (vs := l :: vs) lk hcdv S (hr.mono (by omega : k + 3 + 2 ≤ k + 5)) ee hbs rv hlu fun hr' => ?_
      let Y : Cx := cxOf (fun _ _ _ _ _ _ => False) X.prog X.w f.c.K X.mg X.base Ng qg sg ga cdv X.A X.stack s' H1 (fun _ _ _ => False)
      obtain ⟨nn, CY⟩ := C Y rfl rfl
      have okY : Ok Y f t0.warm.cold E0 := Base.ok (t := t0.warm.cold) B0.cold rfl rfl rfl rfl rfl rfl S.nd hgd (hr'.mono (by omega)) (.inl rfl) passL (fun z => nomatch z)
      have pe1 : PE Y (.Call (.Name cn p2) [.Name a0 p3] [] p4) (tGc f t σX) := s_catchG (X := X) (k := k) (s0 := s') (H0s := H1) (by rw [e3]) kc hlo hlc std hgl hcd hmc (by rw [e3]; exact hkc) (by rw [e3]; exact lkc) (by rw [e3]; exact hcg) (by rw [e3]; exact hbc) CY (by rw [e3]; exact T) (hr'.mono (by omega)) e3 hnd hgd B h0 hv d1 d2
      refine ⟨tSeq (tAsg (tGc f t σX) (gName ps.length)) (tRet (tE f t0.warm.cold E0 e)), pss_cons (ps_set (i := ps.length) S.nd hfl (.inl hloc) pe1 rfl (.inr hloc)) (pss_one (ps_ret ((good e).pe okY hck))), ?_⟩
      have hst := start_ok (st := st) S rel.sub rel.pen (Reps.cons rl rr) hlu
      refine ⟨l, H0, ρX, st, st1, j, fv, rfl, rel, rl, ef, fun w K1 K gr pn rw => ?_⟩
      refine ⟨K1, _, st1, ⟨gr.sub, pn, ((hst.env.grow gr).setVal ps.length rw).no0⟩, ?_⟩
      have hρ : (((((D.lam j :: ds).map SD.val ++ List.replicate (Ng.length - (D.lam j :: ds).length) SD.no).set ps.length (.val fv)).set 0 SD.no) : Env) = ((SD.no :: ds.map SD.val) ++ List.replicate (Ng.length - (ds.length + 1)) SD.no).set ps.length (.val fv) := by
        show ((SD.val (D.lam j) :: (ds.map SD.val ++ List.replicate (Ng.length - (ds.length + 1)) SD.no)).set ps.length (.val fv)).set 0 .no = _
        rw [set_swap (by omega)]
        rfl
      show Fin f E0 _ K1 K (ev t0.warm.Phi f.c.F e (((((D.lam j :: ds).map SD.val ++ List.replicate (Ng.length - (D.lam j :: ds).length) SD.no).set ps.length (.val fv)).set 0 .no) : Env) st1) Q
      rw [hρ, eg]
      exact fun w2 K2 K3 g2 p2 r2 => q w2 K2 K3 (gr.trans g2) p2 (rpE_hard nb r2)
    · cases eg
end
section
variable {P : Program} {w : World} {mg : Str → Option Value} {base : Heap} {f : Cf} {t t0 : Tab} {k : Nat}
/-- .. out of the law's frame -/
theorem gat_law {N : List Str} {qual : Str} {scope : Scope} {fa : Addr} {cdv : Value} {A : Around} {outer : List PySem.Env} {s : Shared} {H : Hp} {E : XK} {bs : VC.E} {n : Nat} {qg x a0 fl ca cn : Str} {pg pgc : Arguments} {sg sgc : Scope} {kws : List (Str × V)} {ga gc : Addr} {fdg : FuncData} {Ng ps : List Str} {p1 p2 p3 p4 p5 p6 : Pos} {e : VC.E} {re : Expr} {cs : List (Nat × String)} {bgc : List Stmt} {cdg ocg dVg kVg docg pmg ctg : Value} {ang odg : Option Addr} {oslg : Array (Option Value)}
    (hnd : N.Nodup) (hgd : A.guards = some []) (hr : Room (k + 5) (A.deeper (envOfC qual scope s.heap.objs.size fa cdv))) (hc : f.c.hot = false)
    (F : FunD f.c.K x qg pg [.Assign [.Name fl p1] (.Call (.Name cn p2) [.Name a0 p3] [] p4) p5, .Return (some re) p6] sg [] kws ga fdg) (S : FnScope Ng ps sg) (hb : Binds f.c.K fdg ps []) (hm : mg (Str.ofString (t.nm n)) = some (.ref ga))
    (h0 : Ng[0]? = some a0) (hv : Vis sg a0) (d1 : (a0 == ("__debug__" : Str)) = false) (d2 : (a0 == ("__classdict__" : Str)) = false) (hfl : Ng[ps.length]? = some fl) (hloc : sg.names.lookup fl = some .local) (hgl : sg.names.lookup cn = some .globalImplicit) (hcd : (cn == ("__debug__" : Str)) = false)
    (hmc : mg cn = some (.ref gc)) (hkc : PySem.W.keepIn f.c.K (.ref gc) = true) (lkc : f.c.K.lookup gc = some ⟨ocg, odg, .func (PySem.W.fnOf cn cn pgc bgc sgc dVg kVg docg pmg ang cdg ctg), oslg⟩) (hcg : PySem.W.codeIn f.c.K cdg cn = true) (hbc : L2.Binds f.c.K (PySem.W.fnOf cn cn pgc bgc sgc dVg kVg docg pmg ang cdg ctg) [ca] [])
    (C : ∀ Y : Cx, Y.K = f.c.K → Y.mg = mg → ∃ nn, Catcher Y f cn gc cdg sgc bgc ca nn cs) (T : Tags f f.c.K cs) (B : Base P w mg base f t k) (B0 : Base P w mg base f t0 k) (hck : chk Ng f.c.used t0.warm.cold e sg re = true) (nb : isBor e = false)
    (hPhi : t.Phi n = gF t0 ps.length Ng.length f.c.F e) : GAt (bodyCx P w f mg base N qual scope fa cdv A outer s H E) (f.hotIn (bodyCx P w f mg base N qual scope fa cdv A outer s H E) (t.wrapL N f.c.used bs)) (t.wrapL N f.c.used bs) n := by
  have B1 := Base.hot (X := bodyCx P w f mg base N qual scope fa cdv A outer s H E) (t' := t.wrapL N f.c.used bs) B hc
  have B2 : Base P w mg base (f.hotIn (bodyCx P w f mg base N qual scope fa cdv A outer s H E) (t.wrapL N f.c.used bs)) (t.wrapL N f.c.used bs).cold k := ⟨B1.fns, B1.blt, B1.gcd, B1.objs, B1.cls, B1.isi, B1.fld, B1.exc, fun _ _ _ z => (nomatch z), B1.mki, B1.eqs, B1.frs⟩
  have B3 := Base.hot (X := bodyCx P w f mg base N qual scope fa cdv A outer s H E) (t' := t.wrapL N f.c.used bs) B0 hc
  refine gat_ok (t0 := t0) rfl rfl rfl rfl rfl hnd hgd hr rfl rfl rfl (fun kk params body sc h => ?_) F S hb hm h0 hv d1 d2 hfl hloc hgl hcd hmc hkc lkc hcg hbc (fun Y y1 y2 => ?_) ⟨T.tag, T.all, T.exm, T.few⟩ B2 B3 hck nb fun v ds st y st' z => ?_
  · have h : (match nthE bs kk with
      | some e => LamX.lamSB scope sc && noPar params && chk N f.c.used t.warm.cold e sc body
      | none => false) = true := h
    cases e : nthE bs kk with
    | none =>
      rw [e] at h
      cases h
    | some a =>
      rw [e] at h
      simp only [Bool.and_eq_true] at h
      exact ⟨a, e, h.1.1, h.1.2, h.2⟩
  · obtain ⟨nn, c⟩ := C Y y1 y2
    exact ⟨nn, c.body, c.scope, c.loc, c.vis, c.nd1, c.nd2⟩
  · have z : (if stills (v :: ds) then t.Phi n (v :: ds) else M.bad) st = .ok y st' := z
    by_cases hs : stills (v :: ds) = true
    · rw [if_pos hs, hPhi] at z
      exact z
    · rw [if_neg hs] at z
      cases z
end
/-- a def that is handed lambdas, in the table -/
def Tab.addH (t : Tab) (n : Nat) (g : List D → M D) : Tab := { t with Phi := fun m => if m = n then g else t.Phi m, hasG := fun m => m == n || t.hasG m, hasI := fun _ => false, hasQ := fun _ => false, hasF := fun _ => false }
theorem Base.addH {P : Program} {w : World} {mg : Str → Option Value} {base : Heap} {f : Cf} {t : Tab} {k : Nat} (B : Base P w mg base f t k) (n : Nat) (g : List D → M D) (h : t.has n = false) : Base P w mg base f (t.addH n g) k := by
  refine ⟨fun m hm => ?_, B.blt, B.gcd, B.objs, B.cls, B.isi, B.fld, B.exc, B.mkx, fun _ z => (nomatch z), fun _ z => (nomatch z), fun _ z => (nomatch z)⟩
  have hm : t.has m = true := hm
  have hne : m ≠ n := fun e => by
    subst e
    exact absurd (h.symm.trans hm) (by decide)
  have e : (t.addH n g).Phi m = t.Phi m := if_neg hne
  rw [e]
  exact B.fns m hm
theorem Base.withC {P : Program} {w : World} {mg : Str → Option Value} {base : Heap} {f : Cf} {t : Tab} {k : Nat} (B : Base P w mg base f t k) : Base P w mg base f { t with hasC := true } k := ⟨B.fns, B.blt, B.gcd, B.objs, B.cls, B.isi, B.fld, B.exc, B.mkx, B.mki, B.eqs, B.frs⟩
theorem Base.offC {P : Program} {w : World} {mg : Str → Option Value} {base : Heap} {f : Cf} {t : Tab} {k : Nat} (B : Base P w mg base f t k) : Base P w mg base f { t with hasC := false } k := ⟨B.fns, B.blt, B.gcd, B.objs, B.cls, B.isi, B.fld, B.exc, B.mkx, B.mki, B.eqs, B.frs⟩
/-- what a def of two rows returns -/
def retOf : List Stmt → Expr
  | [_, .Return (some x) _] => x
  | _ => .Constant .none 0 ⟨0, 0, 0, 0⟩
end VC
set_option Elab.async false
set_option linter.all false
set_option maxRecDepth 100000
set_option maxHeartbeats 1000000
/-! VCtc: own classes: __init__ and __eq__ by values; _law_as_passed: the list that it makes is new. -/
namespace VC
open PySem PySem.Spec PyProof.Rows L2
/-- what __init__ makes of its arguments: the fields -/
def initEnd (F : Flds) (n : Nat) : VC.Flow → M D
  | .nx ρ => match (ρ[0]? : Option SD) with
    | some (.ins m fs) => if m = n ∧ fs.map (·.1) = F n then .ret (.obj n (fs.map (·.2))) else .bad
    | _ => .bad
  | _ => .bad
def initF (n np : Nat) (Φ : Fns) (F : Flds) (s : S) (nN : Nat) : List D → M D := fun l => if l.length + 1 = np then .bind (exS Φ F s (.ins n [] :: l.map SD.val ++ List.replicate (nN - (l.length + 1)) .no)) (initEnd F n) else M.bad
/-- the entry's heap: the new instance's place is marked, no other table -/
def markH (Hb : Hp) (a : Addr) : Hp := fun b => if b = a then some (.tbl #[]) else match Hb b with
  | some (.tbl _) => none
  | o => o
theorem mark_at {Hb : Hp} {a : Addr} : markH Hb a a = some (.tbl #[]) := if_pos rfl
theorem mark_tbl {Hb : Hp} {a b : Addr} {ps : Array Value} (h : markH Hb a b = some (.tbl ps)) : b = a := Classical.byContradiction fun e => by
  unfold markH at h
  rw [if_neg e] at h
  split at h
  · cases h
  · rename_i o hn
    exact hn ps h
theorem mark_ne {Hb : Hp} {a b : Addr} {o : HO} (h : Hb b = some o) (e : b ≠ a) (nt : ∀ ps, o ≠ .tbl ps) : markH Hb a b = some o := by
  unfold markH
  rw [if_neg e, h]
  cases o <;> first | rfl | exact absurd rfl (nt _)
theorem mark_of {Hb : Hp} {a b : Addr} {o : HO} (h : markH Hb a b = some o) (nt : ∀ ps, o ≠ .tbl ps) : Hb b = some o := by
  unfold markH at h
  split at h
  · exact absurd (Option.some.inj h).symm (nt _)
  · split at h
    · cases h
    · exact h
section
variable {P : Program} {w : World} {mg : Str → Option Value} {base : Heap} {f : Cf} {t : Tab} {k : Nat}
theorem start_ins {N : List Str} {H0 Hb : Hp} {st : PenSt} {a dx : Addr} {n : Nat} {ws : List V} {ds : List D} (sm : Same H0 Hb) (na : Hb a = none) (pen : PenAt f.c H0 Hb st) (np : a ≠ f.c.pa) (hu : f.c.used n = true) (hx : f.c.xs = false) (r : Reps f.c H0 ws ds) :
    SRel f H0 (markH Hb a) H0 (upd Hb a (.ins (f.c.cl n) dx [])) (L2.start N (.ref a :: ws)) (.ins n [] :: ds.map SD.val ++ List.replicate (N.length - (ds.length + 1)) .no) st := by
  have hd : ws.length = ds.length := r.length
  have n0 : H0 a = none := sm.free na
  have sub : Same H0 (upd Hb a (.ins (f.c.cl n) dx [])) := fun b o h => by
    rw [upd_ne (ne_of_none h n0)]
    exact sm _ _ h
  have own : ∀ {i : Nat} {l : List D}, (SD.ins n [] :: ds.map SD.val ++ List.replicate (N.length - (ds.length + 1)) .no)[i]? = some (.own l) → False := fun {i l} h => by
    cases i with
    | zero => cases h
    | succ i =>
      rw [List.cons_append, List.getElem?_cons_succ] at h
      exact noOwn h
  refine ⟨⟨sub, pen.loose na, ⟨?_, fun i s q e1 e2 => ?_, fun i j l m v hne e1 _ _ => (own e1).elim⟩⟩, fun b o h => ?_, ⟨Same.refl _, sub, fun b o n1 nt h h0 => ?_, fun b o nt h => ?_⟩, fun i l p e1 _ => (own e1).elim, fun i m fs p e1 e2 => ?_⟩
  · unfold L2.start
    simp [hd]
  · cases i with
    | zero =>
      cases e2
      cases e1
      exact ⟨_, rfl, a, dx, [], [], rfl, upd_same, n0, np, Nat.le_refl _, ⟨rfl, fun j g v h _ => by simp at h⟩, .nil, hu, hx⟩
    | succ i =>
      rw [List.cons_append, List.getElem?_cons_succ] at e2
      unfold L2.start at e1
      rw [List.map_cons, List.cons_append, List.getElem?_cons_succ] at e1
      by_cases hi : i < ds.length
      · rw [List.getElem?_append_left (by simpa using hi)] at e2
        rw [List.getElem?_append_left (by simp; omega)] at e1
        rw [List.getElem?_map, List.getElem?_eq_getElem hi] at e2
        cases e2
        obtain ⟨v, hv, rv⟩ := r.get (List.getElem?_eq_getElem hi)
        rw [List.getElem?_map, hv] at e1
        cases e1
        exact ⟨v, rfl, rv⟩
      · rw [List.getElem?_append_right (by simpa using hi)] at e2
        rw [List.getElem?_replicate] at e2
        split at e2
        · cases e2
          trivial
        · cases e2
  · exact mark_ne (sm _ _ h) (ne_of_none h n0) fun ps z => pen.nt b ps (by rw [h, z])
  · have h := mark_of h nt
    exact ⟨by rw [upd_ne (ne_of_none h na)]; exact h, h0⟩
  · have h := mark_of h nt
    exact ⟨o, nt, by rw [upd_ne (ne_of_none h na)]; exact h⟩
  · cases i with
    | zero =>
      cases e1
      cases e2
      exact ⟨_, mark_at⟩
    | succ i =>
      rw [List.cons_append, List.getElem?_cons_succ] at e1
      exact (noIns e1).elim
theorem grow_mark {c : Cfg} {H0 Hb K K' : Hp} {a : Addr} (na : Hb a = none) (g : Grow c H0 (markH Hb a) K K') : Grow c H0 Hb K K' :=
  ⟨g.fast, g.sub, fun b o n nt h h0 => g.old b o n nt (mark_ne h (ne_of_none h na) nt) h0, fun b o nt h => g.dom b o nt (mark_ne h (ne_of_none h na) nt)⟩
/-- THE RULE for an __init__ -/
theorem fnI {x qual : Str} {params : Arguments} {body : List Stmt} {scope : Scope} {kws : List (Str × V)} {fa : Addr} {fd : FuncData} {N ps : List Str} {s : S} {n : Nat} (F : FunD f.c.K x qual params body scope [] kws fa fd) (S : FnScope N ps scope) (B : Base P w mg base f t k) (hu : f.c.used n = true) (hx : f.c.xs = false) (hc : chkS t N f.c.used s scope body = true) (hC : t.hasC = false) (hL : t.hasL = false) :
    FnG P w f.c.K mg base (k + 2) fa fd ps (spMk f n ps.length (initF n ps.length t.Phi f.c.F s N.length)) := by
  obtain ⟨oc, od, dV, kV, doc, pm, an, cdv, ct, osl, rfl, lk, hcd, _, _⟩ := F.ex
  refine ⟨fun vs H Q E h => ?_, fun A outer sh H args us vs Q E hg hr e0 hb rv hsp => ?_⟩
  · obtain ⟨_, _, _, _, _, _, _, _, h, _⟩ := h
    exact h
  · obtain ⟨H0, Hb, a, dx, ws, ds, st, rfl, hl, rfl, na, sm, pen, np, rr, q⟩ := hsp
    refine fnG.run_ofS' lk hcd S hr e0 hb rv hl fun hr' => ⟨_, (suite s).2 (B.okR S hg hr' (fun z => by rw [hC] at z; cases z) (fun z => by rw [hL] at z; cases z)) hc, H0, markH Hb a, H0, _, st, start_ins (N := N) sm na pen np hu hx rr, ?_⟩
    unfold initF at q
    have hds : ds.length + 1 = ps.length := by rw [← rr.length]; simpa using hl
    rw [if_pos hds] at q
    unfold M.bind at q
    show FinS f E H0 (markH Hb a) H0 _ (exS t.Phi f.c.F s (SD.ins n [] :: ds.map SD.val ++ List.replicate (N.length - (ds.length + 1)) .no) st)
    cases em : exS t.Phi f.c.F s (SD.ins n [] :: ds.map SD.val ++ List.replicate (N.length - (ds.length + 1)) .no) st with
    | bad =>
      rw [em] at q
      exact q
    | err er s1 =>
      rw [em] at q
      exact fun cls dd G0 G g pp ea => q cls dd G0 G (grow_mark na g) pp ea
    | ok fl s1 =>
      rw [em] at q
      cases fl with
      | nx ρ =>
        simp only [initEnd] at q
        intro σ' G0 G r' _
        cases ez : ρ[0]? with
        | none =>
          simp only [ez] at q
          exact q.elim
        | some sd =>
          cases sd with
          | ins m fs =>
            simp only [ez] at q
            split at q
            · rename_i hm
              obtain ⟨rfl, hm⟩ := hm
              obtain ⟨p, dx', gs, us', e2, h1, h2, h3, h4, h5, r5, ⟨ps', h6⟩, _⟩ := r'.insAt ez
              have := mark_tbl h6
              subst this
              exact q .non G0 G (grow_mark na r'.gr) r'.rel.pen ⟨rfl, _, dx', gs, us', rfl, h1, h2, by rw [← hm]; exact h5, r5⟩
            · exact q.elim
          | _ =>
            simp only [ez] at q
            exact q.elim
      | rt d => exact q.elim
      | bk ρ => exact q.elim
      | ct ρ => exact q.elim
/-- a class that is made, in the table -/
def Tab.addI (t : Tab) (n : Nat) (g : List D → M D) : Tab := { t with Phi := fun m => if m = 5000 + n then g else t.Phi m, has := fun m => t.has m && !(m == 5000 + n), hasF := fun m => t.hasF m && !(m == 5000 + n), hasQ := fun m => t.hasQ m && !(6000 + m == 5000 + n), hasI := fun m => m == n || t.hasI m }
theorem Base.addI {x qual : Str} {params : Arguments} {body : List Stmt} {scope : Scope} {kws : List (Str × V)} {fa : Addr} {fd : FuncData} {N ps : List Str} {s : S} (B : Base P w mg base f t k) (n : Nat) (F : FunD f.c.K x qual params body scope [] kws fa fd) (S : FnScope N ps scope)
    (gl : mg (Str.ofString (t.cn n)) = some (.ref (f.c.cl n))) (M : L2.Mk f.c.K (f.c.cl n) fa) (hb : Binds f.c.K fd ps []) (hu : f.c.used n = true) (hx : f.c.xs = false) (hc : chkS t N f.c.used s scope body = true) (hC : t.hasC = false) (hL : t.hasL = false) : Base P w mg base f (t.addI n (initF n ps.length t.Phi f.c.F s N.length)) (k + 3) := by
  have G := fnI (n := n) F S B hu hx hc hC hL
  have B2 := B.mono (k := k + 3) (by omega)
  refine ⟨fun m h => ?_, B2.blt, B2.gcd, B2.objs, B2.cls, B2.isi, B2.fld, B2.exc, B2.mkx, fun m h => ?_, fun m h => ?_, fun m h => ?_⟩
  · have h : (t.has m && !(m == 5000 + n)) = true := h
    simp only [Bool.and_eq_true, Bool.not_eq_true', beq_eq_false_iff_ne] at h
    have e : (t.addI n (initF n ps.length t.Phi f.c.F s N.length)).Phi m = t.Phi m := if_neg h.2
    rw [e]
    exact B2.fns m h.1
  · have h : (m == n || t.hasI m) = true := h
    by_cases e : m = n
    · subst e
      refine ⟨k + 2, Nat.le_refl _, gl, hu, hx, fa, fd, ps, M, ?_, hb, fun l st hl => ?_⟩
      · have e : (t.addI m (initF m ps.length t.Phi f.c.F s N.length)).Phi (5000 + m) = initF m ps.length t.Phi f.c.F s N.length := if_pos rfl
        rw [e]
        exact G
      · have e : (t.addI m (initF m ps.length t.Phi f.c.F s N.length)).Phi (5000 + m) = initF m ps.length t.Phi f.c.F s N.length := if_pos rfl
        rw [e] at hl
        unfold initF at hl
        split at hl
        · assumption
        · exact absurd rfl hl
    · simp only [Bool.or_eq_true, beq_iff_eq] at h
      obtain ⟨j, a, b⟩ := B2.mki m (h.resolve_left e)
      exact ⟨j, a, b.cong (if_neg (by omega))⟩
  · have h : (t.hasQ m && !(6000 + m == 5000 + n)) = true := h
    simp only [Bool.and_eq_true, Bool.not_eq_true', beq_eq_false_iff_ne] at h
    obtain ⟨j, a, b⟩ := B2.eqs m h.1
    exact ⟨j, a, b.cong (if_neg h.2)⟩
  · have h : (t.hasF m && !(m == 5000 + n)) = true := h
    simp only [Bool.and_eq_true, Bool.not_eq_true', beq_eq_false_iff_ne] at h
    have e : (t.addI n (initF n ps.length t.Phi f.c.F s N.length)).Phi m = t.Phi m := if_neg h.2
    rw [e]
    exact B2.frs m h.1
/-- an own class's __eq__, in the table -/
def Tab.addQ (t : Tab) (n : Nat) (g : List D → M D) : Tab := { t with Phi := fun m => if m = 6000 + n then g else t.Phi m, has := fun m => t.has m && !(m == 6000 + n), hasF := fun m => t.hasF m && !(m == 6000 + n), hasI := fun m => t.hasI m && !(5000 + m == 6000 + n), hasQ := fun m => m == n || t.hasQ m }
theorem Base.addQ {x qual : Str} {params : Arguments} {body : List Stmt} {scope : Scope} {kws : List (Str × V)} {fa : Addr} {fd : FuncData} {N ps : List Str} {s : S} (B : Base P w mg base f t k) (n : Nat) (F : FunD f.c.K x qual params body scope [] kws fa fd) (S : FnScope N ps scope)
    (he : PySem.W.findIn f.c.K (.ref (f.c.cl n)) "__eq__" = some (some (.ref fa))) (hf : PySem.W.isFn f.c.K (.ref fa) = true) (hq : eqClsB f.c.K (f.c.cl n) fa = true) (nf : ∀ d, (∀ n l, d = .obj n l → f.c.used n = true) → PySem.W.notFirst f.c.K (f.c.cl n) (tyOf f.c d) = true) (hfo : ∃ fo, f.c.K.lookup fa = some fo ∧ fo.cls = .type "function")
    (hb : Binds f.c.K fd ps []) (h2 : ps.length = 2) (hu : f.c.used n = true) (hx : f.c.xs = false) (hc : chkS t N f.c.used s scope body = true) (hC : t.hasC = false) (hL : t.hasL = false) : Base P w mg base f (t.addQ n (defF ps.length t.Phi f.c.F s N.length)) (k + 3) := by
  have G := fnG F S B hc (fun _ _ _ _ _ _ _ _ _ _ _ _ _ _ _ _ _ _ z => by rw [hC] at z; cases z) hL
  have B2 := B.mono (k := k + 3) (by omega)
  refine ⟨fun m h => ?_, B2.blt, B2.gcd, B2.objs, B2.cls, B2.isi, B2.fld, B2.exc, B2.mkx, fun m h => ?_, fun m h => ?_, fun m h => ?_⟩
  · have h : (t.has m && !(m == 6000 + n)) = true := h
    simp only [Bool.and_eq_true, Bool.not_eq_true', beq_eq_false_iff_ne] at h
    have e : (t.addQ n (defF ps.length t.Phi f.c.F s N.length)).Phi m = t.Phi m := if_neg h.2
    rw [e]
    exact B2.fns m h.1
  · have h : (t.hasI m && !(5000 + m == 6000 + n)) = true := h
    simp only [Bool.and_eq_true, Bool.not_eq_true', beq_eq_false_iff_ne] at h
    obtain ⟨j, a, b⟩ := B2.mki m h.1
    exact ⟨j, a, b.cong (if_neg h.2)⟩
  · have h : (m == n || t.hasQ m) = true := h
    by_cases e : m = n
    · subst e
      refine ⟨k + 2, Nat.le_refl _, hu, hx, nf, fa, fd, ps, he, hf, ?_, hb, h2, hq, hfo⟩
      have e : (t.addQ m (defF ps.length t.Phi f.c.F s N.length)).Phi (6000 + m) = defF ps.length t.Phi f.c.F s N.length := if_pos rfl
      rw [e]
      exact G
    · simp only [Bool.or_eq_true, beq_iff_eq] at h
      obtain ⟨j, a, b⟩ := B2.eqs m (h.resolve_left e)
      exact ⟨j, a, b.cong (if_neg (by omega))⟩
  · have h : (t.hasF m && !(m == 6000 + n)) = true := h
    simp only [Bool.and_eq_true, Bool.not_eq_true', beq_eq_false_iff_ne] at h
    have e : (t.addQ n (defF ps.length t.Phi f.c.F s N.length)).Phi m = t.Phi m := if_neg h.2
    rw [e]
    exact B2.frs m h.1
end
end VC
set_option Elab.async false
set_option linter.all false
set_option maxRecDepth 100000
set_option maxHeartbeats 1000000
/-! VCtd: way = ..; if ..: return table; return [..] if .. else tuple(..) : the list that comes is new. -/
namespace VC
open PySem PySem.Spec PyProof.Rows L2
/-- the def's text -/
def passS (e1 e2 e4 e5 r6 : VC.E) : S := .seq (.set 2 e1) (.seq (.ite e2 (.seq (.ret (.var 1)) .skip) .skip) (.seq (.ret (.ite e4 e5 (.bi .tuple r6))) .skip))
/-- the table that is handed is no list -/
def passF (g : List D → M D) : List D → M D
  | [_, .lst _] => M.bad
  | [a, b] => g [a, b]
  | _ => M.bad
theorem pass_eq {Φ : Fns} {F : Flds} {e1 e2 e4 e5 r6 : VC.E} {n : Nat} {a b : D} : defF 2 Φ F (passS e1 e2 e4 e5 r6) n [a, b] =
    M.bind (ev Φ F e1 (.val a :: .val b :: List.replicate (n - 2) .no)) fun d => M.bind (M.bind (ev Φ F e2 ((.val a :: .val b :: List.replicate (n - 2) .no : Env).set 2 (.val d))) fun x => M.of (dtruth x)) fun c =>
      if c then .ret b else M.bind (M.bind (ev Φ F e4 ((.val a :: .val b :: List.replicate (n - 2) .no : Env).set 2 (.val d))) fun x => M.of (dtruth x)) fun c => if c then ev Φ F e5 ((.val a :: .val b :: List.replicate (n - 2) .no : Env).set 2 (.val d)) else ev Φ F (.bi .tuple r6) ((.val a :: .val b :: List.replicate (n - 2) .no : Env).set 2 (.val d)) := by
  have e0 : defF 2 Φ F (passS e1 e2 e4 e5 r6) n [a, b] = runF Φ F (passS e1 e2 e4 e5 r6) n [a, b] := if_pos rfl
  rw [e0]
  unfold runF passS
  simp only [exS, M.bind_bind, M.bind_ret, List.map_cons, List.map_nil, List.cons_append, List.nil_append, List.length_cons, List.length_nil]
  congr 1
  funext d
  congr 1
  funext x
  cases hx : dtruth x with
  | none => rfl
  | some c =>
    simp only [M.of_some, M.bind_ret]
    cases c with
    | true =>
      have e : (((SD.val a :: .val b :: List.replicate (n - (0 + 1 + 1)) .no : Env).set 2 (.val d)))[1]? = some (.val b) := by
        rw [List.getElem?_set_ne (by decide)]
        rfl
      simp only [if_true, exS, ev, e, M.bind_ret]
    | false =>
      simp only [Bool.false_eq_true, if_false, exS, M.bind_ret, ev_iteE, M.bind_bind]
      congr 1
      funext y
      cases hy : dtruth y with
      | none => rfl
      | some c2 =>
        simp only [M.of_some, M.bind_ret]
        cases c2 with
        | true =>
          simp only [if_true]
          funext s
          unfold M.bind
          cases ev Φ F e5 ((SD.val a :: .val b :: List.replicate (n - (0 + 1 + 1)) .no : Env).set 2 (.val d)) s <;> rfl
        | false =>
          simp only [Bool.false_eq_true, if_false]
          funext s
          unfold M.bind
          cases ev Φ F (.bi .tuple r6) ((SD.val a :: .val b :: List.replicate (n - (0 + 1 + 1)) .no : Env).set 2 (.val d)) s <;> rfl
section
variable {P : Program} {w : World} {mg : Str → Option Value} {base : Heap} {f : Cf} {t : Tab} {k : Nat}
theorem passed_ok {x qual : Str} {params : Arguments} {scope : Scope} {kws : List (Str × V)} {fa : Addr} {fd : FuncData} {N : List Str} {pn tn wy : Str} {x1 x2 x3 x4 x5 x6 : Expr} {p1 p2 p3 p4 p5 p6 : Pos} {e1 e2 e4 e5 r6 : VC.E}
    (F : FunD f.c.K x qual params [.Assign [.Name wy p1] x1 p2, .If x2 [.Return (some x3) p3] [] p4, .Return (some (.IfExp x4 x5 x6 p5)) p6] scope [] kws fa fd) (S : FnScope N [pn, tn] scope) (B : Base P w mg base f t k) (hC : t.hasC = false) (hL : t.hasL = false)
    (hl : locB N scope 2 wy = true) (n1 : isBor e1 = false) (g1 : isG e1 = false) (c1 : chk N f.c.used t e1 scope x1 = true) (c2 : chk N f.c.used t e2 scope x2 = true) (c3 : chk N f.c.used t (.var 1) scope x3 = true) (c4 : chk N f.c.used t e4 scope x4 = true) (m5 : mkB0 e5 = true) (c5 : chk N f.c.used t e5 scope x5 = true) (c6 : chk N f.c.used t (.bi .tuple r6) scope x6 = true) :
    FnG P w f.c.K mg base (k + 2) fa fd [pn, tn] (spFr f 2 (passF (defF 2 t.Phi f.c.F (passS e1 e2 e4 e5 r6) N.length))) := by
  obtain ⟨oc, od, dV, kV, doc, pm, an, cdv, ct, osl, rfl, lk, hcd, _, _⟩ := F.ex
  refine ⟨fun vs H Q E h => ?_, fun A outer sh H args us vs Q E hg hr e0 hb rv hsp => ?_⟩
  · obtain ⟨_, _, _, _, _, _, h, _⟩ := h
    exact h
  obtain ⟨H0, ds, st, sm, pen, rr, hlen, q⟩ := hsp
  refine fnG.run_ofS' lk hcd S hr e0 hb rv hlen fun hr' => ?_
  have oR := B.okR (N := N) (ps := [pn, tn]) (E := E) (H := H) (outer := outer) (qual := qual) (cdv := cdv) (A := A) (s := sh) S hg hr' (fun z => by rw [hC] at z; cases z) (fun z => by rw [hL] at z; cases z)
  have o := oR.okS.ok
  refine ⟨_, pss_cons (set_ok oR.okS g1 c1 2 wy p1 p2 (locB_ok oR.okS hl)) (pss_cons (ps_if ((good e2).pt o c2) (pss_one (ps_ret ((good (.var 1)).pe o c3))) pss_nil) (pss_one (ps_ret (L2.pe_ifExp ((good e4).pt o c4) (mk_ok0 oR.okS m5 c5).1 ((good (.bi .tuple r6)).pe o c6))))), ?_⟩
  -- by values
  have rel0 := start_ok (N := N) S sm pen rr hlen
  match ds, rr, hlen, q, rel0 with
  | [], rr, hlen, q, _ => cases rr; cases hlen
  | [_], rr, hlen, q, _ =>
    cases rr with
    | cons a b => cases b; cases hlen
  | _ :: _ :: _ :: _, rr, hlen, q, _ =>
    exfalso
    have := rr.length
    rw [hlen] at this
    simp at this
  | [d0, d1], rr, hlen, q, rel0 =>
    have hnl : ∀ l, d1 ≠ .lst l := fun l e => by
      subst e
      exact q.elim
    have q : Fin f E (frP f.c H) H0 H (defF 2 t.Phi f.c.F (passS e1 e2 e4 e5 r6) N.length [d0, d1] st) Q := by
      unfold passF at q
      cases d1 <;> first | exact q | exact absurd rfl (hnl _)
    rw [pass_eq] at q
    refine ⟨H0, _, st, rel0, q.step rel0 fun v1 H1 dw st1 G0 gr1 rel1 ra1 q1 => ?_⟩
    rw [rpE_eq n1] at ra1
    have rel1 : Rel f.c G0 H1 ((L2.start N vs).set 2 (some v1)) ((SD.val d0 :: .val d1 :: List.replicate (N.length - 2) .no : Env).set 2 (.val dw)) st1 := ⟨rel1.sub, rel1.pen, rel1.env.setVal 2 ra1⟩
    show tB f t E e2 _ H1 _
    refine ⟨G0, _, st1, rel1, q1.step rel1 fun b H2 c st2 G1 gr2 rel2 rb q2 => ?_⟩
    subst rb
    cases b with
    | true =>
      refine ⟨G1, _, st2, rel2, ?_⟩
      have e : (((SD.val d0 :: .val d1 :: List.replicate (N.length - 2) .no : Env).set 2 (.val dw)))[1]? = some (.val d1) := by
        rw [List.getElem?_set_ne (by decide)]
        rfl
      have q2 : Fin f E (frP f.c H) G1 H2 (M.ret d1 st2) Q := q2
      simp only [ev, e]
      intro v K K' g pp rp
      refine q2 v K K' g pp ?_
      unfold frP
      split
      · exact absurd rfl (hnl _)
      · exact rp
    | false =>
      show tB f t E e4 _ H2 _
      have q2 : Fin f E (frP f.c H) G1 H2 ((M.bind (M.bind (ev t.Phi f.c.F e4 _) fun x => M.of (dtruth x)) _) st2) Q := q2
      refine ⟨G1, _, st2, rel2, q2.step rel2 fun b H3 c st3 G2 gr3 rel3 rb q3 => ?_⟩
      subst rb
      have nH : ∀ p, NoObj H3 p → NoObj H p := fun p h => gr1.noObj (gr2.noObj (gr3.noObj h))
      cases b with
      | true =>
        refine ⟨G2, _, st3, rel3, ?_⟩
        have q3 : Fin f E (frP f.c H) G2 H3 (ev t.Phi f.c.F e5 _ st3) Q := q3
        cases em : ev t.Phi f.c.F e5 ((SD.val d0 :: .val d1 :: List.replicate (N.length - 2) .no : Env).set 2 (.val dw)) st3 with
        | bad =>
          rw [em] at q3
          exact q3
        | err er s' =>
          rw [em] at q3
          exact q3
        | ok d s' =>
          rw [em] at q3
          rintro v K K' g pp ⟨p, rfl, hp, ow⟩
          refine q3 _ K K' g pp ?_
          obtain ⟨p', ws, es, z1, z2, z⟩ := ow
          subst z2
          exact ⟨p, rfl, nH p hp, p', ws, es, z1, rfl, z⟩
      | false =>
        refine ⟨G2, _, st3, rel3, ?_⟩
        have q3 : Fin f E (frP f.c H) G2 H3 (ev t.Phi f.c.F (.bi .tuple r6) _ st3) Q := q3
        have hnot : ∀ l s', ev t.Phi f.c.F (.bi .tuple r6) ((SD.val d0 :: .val d1 :: List.replicate (N.length - 2) .no : Env).set 2 (.val dw)) st3 ≠ .ok (.lst l) s' := fun l s' z => by
          simp only [ev] at z
          unfold M.bind at z
          cases e9 : evs t.Phi f.c.F r6 ((SD.val d0 :: .val d1 :: List.replicate (N.length - 2) .no : Env).set 2 (.val dw)) st3 with
          | ok ls s2 =>
            rw [e9] at z
            have z : M.of (dTuple ls) s2 = .ok (.lst l) s' := z
            unfold dTuple at z
            split at z <;> cases z
          | err _ _ =>
            rw [e9] at z
            cases z
          | bad =>
            rw [e9] at z
            cases z
        cases em : ev t.Phi f.c.F (.bi .tuple r6) ((SD.val d0 :: .val d1 :: List.replicate (N.length - 2) .no : Env).set 2 (.val dw)) st3 with
        | bad =>
          rw [em] at q3
          exact q3
        | err er s' =>
          rw [em] at q3
          exact q3
        | ok d s' =>
          rw [em] at q3
          intro v K K' g pp rp
          refine q3 v K K' g pp ?_
          unfold frP
          split
          · exact absurd em (hnot _ _)
          · exact rpE_hard rfl rp
/-- a def whose list is new, in the table -/
def Tab.addF (t : Tab) (n : Nat) (g : List D → M D) : Tab := { t with Phi := fun m => if m = n then g else t.Phi m, has := fun m => t.has m && !(m == n), hasI := fun m => t.hasI m && !(5000 + m == n), hasQ := fun m => t.hasQ m && !(6000 + m == n), hasF := fun m => m == n || t.hasF m }
theorem Base.addF {fa : Addr} {fd : FuncData} {ps : List Str} (B : Base P w mg base f t k) (n : Nat) (g : List D → M D) (G : FnG P w f.c.K mg base k fa fd ps (spFr f ps.length g)) (hm : mg (Str.ofString (t.nm n)) = some (.ref fa)) (hk : PySem.W.keepIn f.c.K (.ref fa) = true) (hb : Binds f.c.K fd ps []) (hg : ∀ l st, g l st ≠ .bad → l.length = ps.length) :
    Base P w mg base f (t.addF n g) k := by
  refine ⟨fun m h => ?_, B.blt, B.gcd, B.objs, B.cls, B.isi, B.fld, B.exc, B.mkx, fun m h => ?_, fun m h => ?_, fun m h => ?_⟩
  · have h : (t.has m && !(m == n)) = true := h
    simp only [Bool.and_eq_true, Bool.not_eq_true', beq_eq_false_iff_ne] at h
    have e : (t.addF n g).Phi m = t.Phi m := if_neg h.2
    rw [e]
    exact B.fns m h.1
  · have h : (t.hasI m && !(5000 + m == n)) = true := h
    simp only [Bool.and_eq_true, Bool.not_eq_true', beq_eq_false_iff_ne] at h
    obtain ⟨j, a, b⟩ := B.mki m h.1
    exact ⟨j, a, b.cong (if_neg h.2)⟩
  · have h : (t.hasQ m && !(6000 + m == n)) = true := h
    simp only [Bool.and_eq_true, Bool.not_eq_true', beq_eq_false_iff_ne] at h
    obtain ⟨j, a, b⟩ := B.eqs m h.1
    exact ⟨j, a, b.cong (if_neg h.2)⟩
  · have h : (m == n || t.hasF m) = true := h
    by_cases e : m = n
    · subst e
      have e : (t.addF m g).Phi m = g := if_pos rfl
      rw [e]
      exact ⟨fa, fd, ps, hm, hk, G, hb, hg⟩
    · simp only [Bool.or_eq_true, beq_iff_eq] at h
      have e2 : (t.addF n g).Phi m = t.Phi m := if_neg e
      rw [e2]
      exact B.frs m (h.resolve_left e)
end
end VC
set_option Elab.async false
set_option linter.all false
set_option maxRecDepth 100000
set_option maxHeartbeats 2000000
/-! VCy: a law's end, for promises that know that no repr runs around the call. -/
namespace VC
open PySem PySem.Spec PyProof.Rows L2
/-- the heap that is tracked at the law's entry: the tables, and the script where it is none of the written part's -/
def entryH (own : Bool) (a : Addr) (vs : List Value) (ns : List Int) (tb : List Addr) : Hp := fun b =>
  if own = true ∧ b = a then some (.frz { cls := .type "list", data := .seq vs.toArray } (.lst (ns.map V.int))) else if b ∈ tb then some (.tbl #[]) else none
section
variable {own : Bool} {a b : Addr} {vs : List Value} {ns : List Int} {tb : List Addr}
theorem entry_tb (h : b ∈ tb) (n : b ≠ a) : entryH own a vs ns tb b = some (.tbl #[]) := by
  unfold entryH
  rw [if_neg (fun z => n z.2), if_pos h]
theorem entry_cases (b : Addr) : entryH own a vs ns tb b = none ∨ (b ∈ tb ∧ entryH own a vs ns tb b = some (.tbl #[])) ∨ (own = true ∧ b = a ∧ entryH own a vs ns tb b = some (.frz { cls := .type "list", data := .seq vs.toArray } (.lst (ns.map V.int)))) := by
  unfold entryH
  by_cases h : own = true ∧ b = a
  · exact .inr (.inr ⟨h.1, h.2, if_pos h⟩)
  · rw [if_neg h]
    by_cases h2 : b ∈ tb
    · exact .inr (.inl ⟨h2, if_pos h2⟩)
    · exact .inl (if_neg h2)
theorem entry_none (h : b ∉ tb) (n : b ≠ a) : entryH own a vs ns tb b = none := by
  unfold entryH
  rw [if_neg (fun z => n z.2), if_neg h]
end
theorem law_callG {P : Program} {w : World} {K : PySem.W.Frag} {mg mb : Str → Option Value} {CX : CXT} {fa a : Addr} {cs : List (Addr × Addr)} {s₁ : Shared} {vs : List Value} {ns : List Int} (KX : K.In s₁.heap) (hns : s₁.heap.Ns mainGlobals mg) (hb : s₁.heap.Ns builtinsNs mb) (hbb : ∀ x : Str, x ≠ "__name__" → mb x = bootBuiltins x) (hlim : s₁.heap.NoLimit) (hg : s₁.gens = #[])
    (hT : ∀ p ∈ cs, s₁.heap.get? p.2 = some { cls := .none, data := .fields #[] }) (nT : ∀ p ∈ cs, K.lookup p.2 = none) (C : ∀ p ∈ cs, PySem.W.CodeHd s₁.heap p.1 p.2) (hbm : ∃ (bm : Addr) (ob : Obj), mg "__builtins__" = some (.ref bm) ∧ bm ≠ builtinsNs ∧ s₁.heap.get? bm = some ob ∧ ob.cls = .type "module" ∧ ob.dict = some builtinsNs ∧ ob.data = .plain)
    (ha : s₁.heap.get? a = some { cls := .type "list", data := .seq vs.toArray }) (hi : IntsAre vs ns) (hl : ns.length ≤ sizeLine)
    (F : ∀ (base : Heap) (H : Hp), K.In base → base.Ns mainGlobals mg → (∀ p ∈ cs, LamX.TabB base mg p.1 p.2) → (∀ p ∈ cs, H p.2 = some (.tbl #[])) → (∀ b o, H b = some o → (∃ p ∈ cs, b = p.2) ∨ b = a) → SqL K H a (ns.map V.int) → Env0 P w K mg base callerA [] s₁ H →
      codeAny (model P w) callerA (.call (.ref fa) ⟨[.ref a], []⟩) (CR CX [] P w H s₁ (fun v _ => v = .bl true) (fun _ _ _ => False)) s₁) (hCX : ∀ H e s', CX [] H s₁ (fun _ _ _ => False) e s' → False) :
    codeAny (model P w) callerA (.call (.ref fa) ⟨[.ref a], []⟩) (fun r s' => r = .ok (.ret (.bool true)) ∧ OldK s₁.heap s'.heap ∧ s'.os = s₁.os ∧ AllBare s'.gens) s₁ := by
  have rv := vals_ints hi
  have lenV := hi.length
  generalize htb : cs.map (·.2) = tb
  have memT : ∀ p ∈ cs, p.2 ∈ tb := fun p hp => by rw [← htb]; exact List.mem_map.mpr ⟨p, hp, rfl⟩
  have ofT : ∀ b ∈ tb, ∃ p ∈ cs, b = p.2 := fun b hb' => by
    rw [← htb] at hb'
    obtain ⟨p, hp, e⟩ := List.mem_map.mp hb'
    exact ⟨p, hp, e.symm⟩
  have aT : a ∉ tb := fun z => by
    obtain ⟨p, hp, e⟩ := ofT a z
    have q := hT p hp
    rw [← e, ha] at q
    have z' : Data.seq vs.toArray _ = Data.fields #[] := congrArg Obj.data (Option.some.inj q)
    cases z'
  -- the script is tracked where the written part does not tell it
  generalize hown : (K.lookup a).isNone = own
  generalize hH : entryH own a vs ns tb = H
  have cse : ∀ b, H b = none ∨ (b ∈ tb ∧ H b = some (.tbl #[])) ∨ (own = true ∧ b = a ∧ H b = some (.frz { cls := .type "list", data := .seq vs.toArray } (.lst (ns.map V.int)))) := fun b => by rw [← hH]; exact entry_cases b
  have hok : HOk P w H s₁.heap := fun b u z => by
    rcases cse b with e | ⟨m, e⟩ | ⟨_, rfl, e⟩
    · rw [e] at z; cases z
    · rw [e] at z
      cases z
      obtain ⟨p, hp, rfl⟩ := ofT b m
      exact hT p hp
    · rw [e] at z
      cases z
      exact ⟨ha, by rw [List.length_map]; exact hl, vs, _, rv, ha⟩
  have hS : SqL K H a (ns.map V.int) := by
    cases hk : K.lookup a with
    | some o =>
      have e := KX a o hk
      rw [ha] at e
      cases e
      exact .inr ⟨_, vs.toArray, _, hk, rfl, rfl, rfl, by rw [List.size_toArray, lenV]; exact hl, by simpa using rv⟩
    | none =>
      refine .inl (.inr ⟨{ cls := .type "list", data := .seq vs.toArray }, ?_⟩)
      rw [← hH]
      exact if_pos ⟨by rw [← hown, hk]; rfl, rfl⟩
  have free : ∀ {b : Addr} {o : Obj}, s₁.heap.get? b = some o → (∀ vs n, o.data ≠ .seq vs n) → o.data ≠ .fields #[] → H b = none := fun {b o} e h1 h2 => by
    rcases cse b with z | ⟨m, _⟩ | ⟨_, rfl, _⟩
    · exact z
    · obtain ⟨p, hp, rfl⟩ := ofT b m
      rw [hT p hp] at e
      cases e
      exact (h2 rfl).elim
    · rw [ha] at e
      cases e
      exact (h1 _ _ rfl).elim
  have nsK : ∀ {b : Addr} {m : Str → Option Value}, s₁.heap.Ns b m → (hidT s₁.heap H).Ns b m := fun {b m} ⟨o, es, ep, e, d, r⟩ => ⟨o, es, ep, hidT_get e (free e (fun _ _ z => by rw [d] at z; cases z) fun z => by rw [d] at z; cases z), d, r⟩
  have hKb : K.In (hidT s₁.heap H) := fun b o e => hidT_get (KX b o e) (by
    rcases cse b with z | ⟨m, _⟩ | ⟨ho, rfl, _⟩
    · exact z
    · obtain ⟨p, hp, rfl⟩ := ofT b m
      rw [nT p hp] at e
      cases e
    · rw [← hown, e] at ho
      cases ho)
  have hM : L2.Mod K mg (hidT s₁.heap H) := ⟨hKb, nsK hns, ⟨mb, nsK hb, hbb⟩, let ⟨mc, h1, h2⟩ := hlim; ⟨mc, nsK h1, h2⟩⟩
  have TB : ∀ p ∈ cs, LamX.TabB (hidT s₁.heap H) mg p.1 p.2 := fun p hp => by
    have hTp := hT p hp
    refine ⟨?_, ?_, fun z => ?_⟩
    · obtain ⟨o, us, file, tf, flags, tg, inF, text, tt, e1, r1, r2, r3, r4⟩ := C p hp
      exact ⟨o, us, file, tf, flags, tg, inF, text, tt, hidT_get e1 (free e1 (fun _ _ z => by rw [r2] at z; cases z) fun z => by rw [r2] at z; cases z; simp at r3), r1, r2, r3, r4⟩
    · obtain ⟨bm, ob, b1, b2, b3, b4, b5, b6⟩ := hbm
      refine ⟨bm, ob, b1, b2, fun q => ?_, fun q => ?_, hidT_get b3 (free b3 (fun _ _ z => by rw [b6] at z; cases z) fun z => by rw [b6] at z; cases z), b4, b5, b6⟩
      · obtain ⟨o, es, ep, e, hd, _⟩ := hns
        rw [q, e] at b3
        cases b3
        rw [hd] at b6
        cases b6
      · rw [q, hTp] at b3
        cases b3
        cases b6
    · obtain ⟨o, es, ep, e, hd, _⟩ := hns
      rw [z, hTp] at e
      cases e
      cases hd
  have e0 : Env0 P w K mg (hidT s₁.heap H) callerA [] s₁ H := ⟨rfl, hM, fun b o e => of_hidT e, Nat.le_of_eq (hidT_size _ _), trivial, fun b hb => (nomatch (show b ∈ ([] : List Addr) from hb)), hok, .of_eq hg⟩
  have hHt : ∀ p ∈ cs, H p.2 = some (.tbl #[]) := fun p hp => by rw [← hH]; exact entry_tb (memT p hp) fun z => aT (by rw [← z]; exact memT p hp)
  refine codeAny_mono (F _ H hKb (nsK hns) TB hHt (fun b o e => ?_) hS e0) fun r s' h => ?_
  · rcases cse b with z | ⟨m, _⟩ | ⟨_, z, _⟩
    · rw [e] at z; cases z
    · obtain ⟨p, hp, e⟩ := ofT b m
      exact .inl ⟨p, hp, e⟩
    · exact .inr z
  cases r with
  | error e => exact (hCX H e s' h).elim
  | ok fl =>
    cases fl with
    | next => exact False.elim h
    | brk => exact False.elim h
    | cont => exact False.elim h
    | ret u =>
      obtain ⟨v, H', os, bare, un, hok', r', q⟩ := h
      have q' : v = .bl true := q
      subst q'
      have hu : u = Value.bool true := r'
      subst hu
      have key : ∀ b o, b ∉ tb → s₁.heap.get? b = some o → s'.heap.get? b = some o := fun b o nb e => by
        rcases cse b with z | ⟨m, _⟩ | ⟨_, _, z⟩
        · exact un.keep b o e z (fun z => nomatch (show b ∈ ([] : List Addr) from z)) (by simp)
        · exact absurd m nb
        · obtain ⟨e1, _⟩ := hok b _ z
          obtain ⟨e2, _⟩ := hok' b _ (un.frzs b _ _ z)
          rw [e] at e1
          cases e1
          exact e2
      refine ⟨rfl, ⟨fun b o e => ?_, fun b o e => ?_⟩, os, bare⟩
      · by_cases hb : b ∈ tb
        · obtain ⟨p, hp, rfl⟩ := ofT b hb
          obtain ⟨more, z⟩ := un.tbls p.2 #[] (hHt p hp)
          rw [hT p hp] at e
          cases e
          exact .inr (.inl ⟨((C p hp).tab (hT p hp)).isCodeTable, rfl, #[], _, rfl, by have := hok' p.2 _ z; rw [Array.empty_append] at this ⊢; exact this⟩)
        · exact .inl (key b o hb e)
      · by_cases hb : b ∈ tb
        · obtain ⟨p, hp, rfl⟩ := ofT b hb
          obtain ⟨more, z⟩ := un.tbls p.2 #[] (hHt p hp)
          exact ⟨_, hok' p.2 _ z⟩
        · exact ⟨o, key b o hb e⟩
end VC
set_option Elab.async false
set_option linter.all false
set_option maxRecDepth 100000
set_option maxHeartbeats 2000000
/-! VCz: the law's def. -/
namespace VC
open PySem PySem.Spec PyProof.Rows L2
/-- _law_pen's promise -/
def spPen (K : PySem.W.Frag) : Sp := fun vs H Q _ => ∃ a ns, vs = [.ref a] ∧ SqL K H a (ns.map V.int) ∧ ∀ p la, H p = none → H la = none → la ≠ p → Q (.ref p) (penH H p la ns)
/-- a configuration, the pen's place open -/
def Cf.at (f : Cf) (pa : Addr × Addr) : Cf := { f with c := { f.c with pa := pa.1, la := pa.2 } }
/-- what stands fast behind the pen -/
def penH0 (la : Addr) (ns : List Int) : Hp := fun b => if b = la then some (.lst (ns.map V.int)) else none
theorem TabF.nil {H0 H : Hp} {P : Addr} {q : Str} (h : H P = some (.tbl #[])) : TabF H0 H P q := ⟨#[], h, True.intro, fun pos cv hc => by
  have z : codeAmong pos [] = some cv := hc
  cases z⟩
theorem pen_start {f : Cf} {H : Hp} {p la : Addr} {ns : List Int} {σ : L2.St} {n : Nat} (hp : H p = none) (hl : H la = none) (ne : la ≠ p) (ht : ∀ q ∈ f.c.tabs, H q.1 = some (.tbl #[])) (hσ : σ.length = n + 2) (h1 : σ[1]? = some (some (.ref p))) :
    SRel (f.at (p, la)) (penH0 la ns) (penH H p la ns) (penH0 la ns) (penH H p la ns) σ (.no :: .val .pen :: List.replicate n .no) (pen0 ns) := by
  have hla : penH H p la ns la = some (.lst (ns.map V.int)) := by
    unfold penH
    rw [upd_ne ne, upd_same]
  have sub : Same (penH0 la ns) (penH H p la ns) := fun b o h => by
    unfold penH0 at h
    by_cases e : b = la
    · subst e
      rw [if_pos rfl] at h
      cases h
      exact hla
    · rw [if_neg e] at h
      cases h
  have pen : PenAt (f.at (p, la)).c (penH0 la ns) (penH H p la ns) (pen0 ns) := by
    refine ⟨⟨if_neg (Ne.symm ne), upd_same, if_pos rfl⟩, fun q hq => TabF.nil ?_, fun b ps h => ?_⟩
    · have e := ht q hq
      show penH H p la ns q.1 = _
      unfold penH
      rw [upd_ne (ne_of_none e hp), upd_ne (ne_of_none e hl), upd_ne (ne_of_none e hp)]
      exact e
    · unfold penH0 at h
      split at h <;> cases h
  refine ⟨⟨sub, pen, ⟨by simp [hσ], fun i s r e1 e2 => ?_, fun i j l m v hne e1 e2 e3 => ?_⟩⟩, sub, .refl sub, fun i l q e1 e2 => ?_, fun i n' fs q e1 e2 => ?_⟩
  · match i with
    | 0 => cases e2; trivial
    | 1 =>
      cases e2
      rw [h1] at e1
      cases e1
      exact ⟨_, rfl, .pen⟩
    | i + 2 =>
      have e2 : (List.replicate n SD.no)[i]? = some r := by simpa using e2
      rw [List.getElem?_replicate] at e2
      split at e2
      · cases e2; trivial
      · cases e2
  · match i with
    | 0 => cases e1
    | 1 => cases e1
    | i + 2 =>
      have e1 : (List.replicate n SD.no)[i]? = some (.own l) := by simpa using e1
      rw [List.getElem?_replicate] at e1
      split at e1 <;> cases e1
  · match i with
    | 0 => cases e1
    | 1 => cases e1
    | i + 2 =>
      have e1 : (List.replicate n SD.no)[i]? = some (.own l) := by simpa using e1
      rw [List.getElem?_replicate] at e1
      split at e1 <;> cases e1
  · match i with
    | 0 => cases e1
    | 1 => cases e1
    | i + 2 =>
      have e1 : (List.replicate n SD.no)[i]? = some (.ins n' fs) := by simpa using e1
      rw [List.getElem?_replicate] at e1
      split at e1 <;> cases e1
/-- the law runs, whatever its configuration -/
theorem law_run0 {P : Program} {w : World} {f : Cf} {mg : Str → Option Value} {base : Heap} {t : Tab} {k : Nat} {x qual : Str} {params : Arguments} {st1 : Stmt} {rest : List Stmt} {scope : Scope} {kws : List (Str × V)} {fa fp a : Addr} {fd fdp : FuncData} {N : List Str} {s : S} {sc : Str} {A : Around} {s₁ : Shared} {H : Hp} {ns : List Int} {cx : Str}
    (F : FunD f.c.K x qual params (st1 :: rest) scope [] kws fa fd) (S : FnScope N [sc] scope) (hb : Binds f.c.K fd [sc] []) (Fp : FnOk P w f.c.K mg base (L2.CX P w) k fp fdp [cx] (spPen f.c.K)) (hbp : Binds f.c.K fdp [cx] []) (hmp : mg "_law_pen" = some (.ref fp)) (hkp : PySem.W.keepIn f.c.K (.ref fp) = true)
    (okR : ∀ (oc : Value) (od : Option Addr) (dV kV doc pm : Value) (an : Option Addr) (cdv ct : Value) (osl : Array (Option Value)), f.c.K.lookup fa = some ⟨oc, od, .func (PySem.W.fnOf x qual params (st1 :: rest) scope dV kV doc pm an cdv ct), osl⟩ → PySem.W.codeIn f.c.K cdv qual = true → Room (k + 1) (A.deeper (envOfC qual scope s₁.heap.objs.size fa cdv)) →
      ∀ pa, ∃ g : Cf, g.c.tabs = f.c.tabs ∧ g.c.used = f.c.used ∧ g.c.F = f.c.F ∧ OkR (bodyCx P w (f.at pa) mg base N qual scope fa cdv A [] s₁ H (fun _ _ _ => False)) (g.at pa) t (fun _ _ _ => False)) (hN : 2 ≤ N.length) (h1 : ∃ (v : Str) (p1 p2 p3 p4 pos : Pos), st1 = .Assign [.Name v p1] (.Call (.Name "_law_pen" p2) [.Name sc p3] [] p4) pos ∧ N[1]? = some v ∧ N[0]? = some sc ∧ (scope.names.lookup v = some .local ∨ scope.names.lookup v = some .cell) ∧ scope.names.lookup sc = some .local ∧ scope.names.lookup ("_law_pen" : Str) = some .globalImplicit ∧ (sc == ("__debug__" : Str)) = false ∧ (sc == ("__classdict__" : Str)) = false)
    (hc : chkS t N f.c.used s scope rest = true) (hg : A.guards = some []) (hr : Room (k + 2) A) (e0 : Env0 P w f.c.K mg base A [] s₁ H) (ht : ∀ q ∈ f.c.tabs, H q.1 = some (.tbl #[])) (hS : SqL f.c.K H a (ns.map V.int))
    (law : ∃ st', exS t.Phi f.c.F s (.no :: .val .pen :: List.replicate (N.length - 2) .no) (pen0 ns) = .ok (.rt (.bl true)) st') :
    codeAny (model P w) A (.call (.ref fa) ⟨[.ref a], []⟩) (CR (L2.CX P w) [] P w H s₁ (fun v _ => v = .bl true) (fun _ _ _ => False)) s₁ := by
  obtain ⟨oc, od, dV, kV, doc, pm, an, cdv, ct, osl, rfl, lk, hcd, _, _⟩ := F.ex
  obtain ⟨v, p1, p2, p3, p4, pos, rfl, n1, n0, hv, hsc, hlp, d1, d2⟩ := h1
  have hb1 := hb s₁ [.ref a] (e0.mod.kin.keeps fun b o e => (e0.bs b o e).1) rfl
  rw [List.append_nil] at hb1
  refine LamX.run_ofS (us := [.ref a]) (vs := [.ref a]) lk hcd S hr e0 hb1 (.cons rfl .nil) rfl fun hr' => ?_
  have tk : Takes (bodyCx P w f mg base N qual scope fa cdv A [] s₁ H (fun _ _ _ => False)) (fun cls d _ H => False) := takes_of rfl rfl rfl rfl
  have hpe := pe_call (p := p2) (pos := p4) Fp (hr'.mono (Nat.le_succ k)) (X := bodyCx P w f mg base N qual scope fa cdv A [] s₁ H (fun _ _ _ => False)) hlp hmp hkp hbp .nil (passes_call tk fun _ _ _ _ h => h) (pa_cons (pe_var (pos := p3) n0 (.inl hsc) d1 d2) pa_nil) (by decide) rfl rfl
  refine ⟨tSeq (tAsg (tCall (spPen f.c.K) [] (fun _ _ _ => False) (tCons (tVar 0) tNil)) (gName 1)) (fun D σ G => ∃ (pa : Addr × Addr) (g : Cf), g.c.used = f.c.used ∧ OkR (bodyCx P w (f.at pa) mg base N qual scope fa cdv A [] s₁ H (fun _ _ _ => False)) (g.at pa) t (fun _ _ _ => False) ∧ tS (g.at pa) t (fun _ _ _ => False) s D σ G), pss_cons (ps_set (i := 1) S.nd n1 hv hpe rfl (.inl rfl)) ⟨fun pins s' σ' H' D I h => ?_⟩, ?_⟩
  · obtain ⟨pa, g, hu, okR, h⟩ := h
    have hc : chkS t N (g.at pa).c.used s scope rest = true := by
      show chkS t N g.c.used s scope rest = true
      rw [hu]
      exact hc
    exact ((suite s).2 okR hc).run pins s' σ' H' D I h
  · refine ⟨_, rfl, a, ns, rfl, hS, fun p la hp hl ne => ?_⟩
    obtain ⟨g, ht1, hu1, hF1, ok1⟩ := okR _ _ _ _ _ _ _ _ _ _ lk hcd hr' (p, la)
    refine ⟨(p, la), g, hu1, ok1, penH0 la ns, penH H p la ns, penH0 la ns, .no :: .val .pen :: List.replicate (N.length - 2) .no, pen0 ns, ?_, ?_⟩
    · refine pen_start (f := g) hp hl ne (by rw [ht1]; exact ht) ?_ ?_
      · rw [List.length_set]
        unfold L2.start
        simp
        omega
      · rw [List.getElem?_set_self]
        unfold L2.start
        simp
        omega
    · obtain ⟨st', e⟩ := law
      show FinS _ _ _ _ _ _ (exS t.Phi g.c.F s _ _)
      rw [hF1, e]
      exact fun v H0' H' _ _ r => by
        cases r
        rfl
/-- the law runs -/
theorem law_run {P : Program} {w : World} {f : Cf} {mg : Str → Option Value} {base : Heap} {t : Tab} {k : Nat} {x qual : Str} {params : Arguments} {st1 : Stmt} {rest : List Stmt} {scope : Scope} {kws : List (Str × V)} {fa fp a : Addr} {fd fdp : FuncData} {N : List Str} {s : S} {sc : Str} {A : Around} {s₁ : Shared} {H : Hp} {ns : List Int} {cx : Str}
    (F : FunD f.c.K x qual params (st1 :: rest) scope [] kws fa fd) (S : FnScope N [sc] scope) (hb : Binds f.c.K fd [sc] []) (Fp : FnOk P w f.c.K mg base (L2.CX P w) k fp fdp [cx] (spPen f.c.K)) (hbp : Binds f.c.K fdp [cx] []) (hmp : mg "_law_pen" = some (.ref fp)) (hkp : PySem.W.keepIn f.c.K (.ref fp) = true)
    (B : ∀ pa, Base P w mg base (f.at pa) t k) (hcat : ∀ pa, CatF P w mg base (f.at pa) t k N x qual params (st1 :: rest) scope fa) (hN : 2 ≤ N.length) (h1 : ∃ (v : Str) (p1 p2 p3 p4 pos : Pos), st1 = .Assign [.Name v p1] (.Call (.Name "_law_pen" p2) [.Name sc p3] [] p4) pos ∧ N[1]? = some v ∧ N[0]? = some sc ∧ (scope.names.lookup v = some .local ∨ scope.names.lookup v = some .cell) ∧ scope.names.lookup sc = some .local ∧ scope.names.lookup ("_law_pen" : Str) = some .globalImplicit ∧ (sc == ("__debug__" : Str)) = false ∧ (sc == ("__classdict__" : Str)) = false)
    (hL : t.hasL = false) (hc : chkS t N f.c.used s scope rest = true) (hg : A.guards = some []) (hr : Room (k + 2) A) (e0 : Env0 P w f.c.K mg base A [] s₁ H) (ht : ∀ q ∈ f.c.tabs, H q.1 = some (.tbl #[])) (hS : SqL f.c.K H a (ns.map V.int))
    (law : ∃ st', exS t.Phi f.c.F s (.no :: .val .pen :: List.replicate (N.length - 2) .no) (pen0 ns) = .ok (.rt (.bl true)) st') :
    codeAny (model P w) A (.call (.ref fa) ⟨[.ref a], []⟩) (CR (L2.CX P w) [] P w H s₁ (fun v _ => v = .bl true) (fun _ _ _ => False)) s₁ :=
  law_run0 (k := k) F S hb Fp hbp hmp hkp (fun _ _ _ _ _ _ _ _ _ _ lk hcd hr' pa => ⟨f, rfl, rfl, rfl, (B pa).okR S hg hr' (hcat pa _ _ _ _ _ _ _ _ _ _ _ _ _ _ _ lk hcd hr') fun z => by rw [hL] at z; cases z⟩) hN h1 hc hg hr e0 ht hS law
/-- .. lambdas kept in it -/
theorem law_runL {P : Program} {w : World} {f : Cf} {mg : Str → Option Value} {base : Heap} {t : Tab} {k : Nat} {x qual : Str} {params : Arguments} {st1 : Stmt} {rest : List Stmt} {scope : Scope} {kws : List (Str × V)} {fa fp a : Addr} {fd fdp : FuncData} {N : List Str} {s : S} {sc : Str} {A : Around} {s₁ : Shared} {H : Hp} {ns : List Int} {cx : Str}
    (F : FunD f.c.K x qual params (st1 :: rest) scope [] kws fa fd) (S : FnScope N [sc] scope) (hb : Binds f.c.K fd [sc] []) (Fp : FnOk P w f.c.K mg base (L2.CX P w) k fp fdp [cx] (spPen f.c.K)) (hbp : Binds f.c.K fdp [cx] []) (hmp : mg "_law_pen" = some (.ref fp)) (hkp : PySem.W.keepIn f.c.K (.ref fp) = true)
    (B : ∀ pa, Base P w mg base (f.at pa) t k) (hcat : ∀ pa, CatF P w mg base (f.at pa) t k N x qual params (st1 :: rest) scope fa) (hN : 2 ≤ N.length) (h1 : ∃ (v : Str) (p1 p2 p3 p4 pos : Pos), st1 = .Assign [.Name v p1] (.Call (.Name "_law_pen" p2) [.Name sc p3] [] p4) pos ∧ N[1]? = some v ∧ N[0]? = some sc ∧ (scope.names.lookup v = some .local ∨ scope.names.lookup v = some .cell) ∧ scope.names.lookup sc = some .local ∧ scope.names.lookup ("_law_pen" : Str) = some .globalImplicit ∧ (sc == ("__debug__" : Str)) = false ∧ (sc == ("__classdict__" : Str)) = false)
    (bs : VC.E) (hG : ∀ (pa : Addr × Addr) (cdv : Value), Room (k + 1) (A.deeper (envOfC qual scope s₁.heap.objs.size fa cdv)) → ∀ g, t.hasG g = true → GAt (bodyCx P w (f.at pa) mg base N qual scope fa cdv A [] s₁ H (fun _ _ _ => False)) ((f.at pa).hotIn (bodyCx P w (f.at pa) mg base N qual scope fa cdv A [] s₁ H (fun _ _ _ => False)) (t.wrapL N f.c.used bs)) (t.wrapL N f.c.used bs) g) (hcold : f.c.hot = false) (hC : t.hasC = true) (hc : chkS (t.wrapL N f.c.used bs) N f.c.used s scope rest = true) (hg : A.guards = some []) (hr : Room (k + 2) A) (e0 : Env0 P w f.c.K mg base A [] s₁ H) (ht : ∀ q ∈ f.c.tabs, H q.1 = some (.tbl #[])) (hS : SqL f.c.K H a (ns.map V.int))
    (law : ∃ st', exS t.warm.Phi f.c.F s (.no :: .val .pen :: List.replicate (N.length - 2) .no) (pen0 ns) = .ok (.rt (.bl true)) st') :
    codeAny (model P w) A (.call (.ref fa) ⟨[.ref a], []⟩) (CR (L2.CX P w) [] P w H s₁ (fun v _ => v = .bl true) (fun _ _ _ => False)) s₁ :=
  law_run0 (t := t.wrapL N f.c.used bs) (k := k) F S hb Fp hbp hmp hkp (fun _ _ _ _ _ _ _ cdv _ _ lk hcd hr' pa => ⟨f.hotIn (bodyCx P w (f.at pa) mg base N qual scope fa cdv A [] s₁ H (fun _ _ _ => False)) (t.wrapL N f.c.used bs), rfl, rfl, rfl, (B pa).okL hcold hC S hg hr' (hcat pa _ _ _ _ _ _ _ _ _ _ _ _ _ _ _ lk hcd hr' hC) (hG pa cdv hr')⟩) hN h1 hc hg hr e0 ht hS law
theorem walk_ofG {l : PySem.W.OpenLaw} {n : Nat} {q : Program} {loose : List Str} {XP : (Str → Option Value) → Heap → Prop} {YP : World → Heap → Prop} {d : DefRec} (hn : l.most = some n) (hn2 : n ≤ sizeLine) (hdf : d.params.defaults = [])
    (F : ∀ (w : World) (mg : Str → Option Value) (fa : Addr) (h : Heap), YP w h → h.Ns mainGlobals mg → mg d.name = some (.ref fa) → ∃ (K : PySem.W.Frag) (cs : List (Addr × Addr)), K.In h ∧ (∀ p ∈ cs, h.get? p.2 = some { cls := .none, data := .fields #[] }) ∧ (∀ p ∈ cs, K.lookup p.2 = none) ∧ (∀ p ∈ cs, PySem.W.CodeHd h p.1 p.2) ∧
      ∀ (base : Heap) (H : Hp) (a : Addr) (ns : List Int) (s₁ : Shared), K.In base → base.Ns mainGlobals mg → (∀ p ∈ cs, LamX.TabB base mg p.1 p.2) → (∀ p ∈ cs, H p.2 = some (.tbl #[])) → SqL K H a (ns.map V.int) → ns.length ≤ n → Env0 l.prog w K mg base callerA [] s₁ H →
        codeAny (model l.prog w) callerA (.call (.ref fa) ⟨[.ref a], []⟩) (CR (L2.CX l.prog w) [] l.prog w H s₁ (fun v _ => v = .bl true) (fun _ _ _ => False)) s₁) :
    PySem.W.WalkO q loose XP YP l.row.toRowW d [] (fun f vs => PySem.call f vs) := by
  refine Att.attach_callB hn hdf fun w s₀ s₁ mg mb fa o pm cd doc a vs ns G Y ho hd hcd hmg hobj hints hlen hbits hg => ?_
  obtain ⟨K, cs, KX, hT, nT, C, hF⟩ := F w mg fa _ Y G.T.g hmg
  refine law_callG KX G.T.g G.T.b G.T.builtins G.T.nolimit hg hT nT C G.T.bmain hobj hints (Nat.le_trans hlen hn2) (fun base H hb hn' hTB hH hO hS e0 => hF base H a ns s₁ hb hn' hTB hH hS hlen e0) fun H e s' hx => ?_
  obtain ⟨_, _, _, _, _, _, _, _, _, _, _, _, z⟩ := hx
  exact z
end VC
set_option Elab.async false
set_option linter.all false
set_option maxRecDepth 100000
set_option maxHeartbeats 2000000
/-! VCza: from what one run of the top tells to what the rules ask. -/
namespace VC
open PySem PySem.Spec PyProof.Rows L2
/-- an exception's class, by one check of the written part -/
def excB (K : PySem.W.Frag) (C : Addr) (fields : List String) : Bool :=
  (match K.lookup C with
    | some ⟨.type "type", _, .cls cd, sl⟩ => (match cd.mro, sl.toList with
      | .ref C' :: bm, [_, _, _, _, some (.builtin n), _] => decide (C' = C) && (decide (n = "ValueError.__new__") && (!cd.hasDel && (cd.hasDict && PySem.HandSPX.refsVE bm)))
      | _, _ => false)
    | _ => false) &&
  (decide (PySem.W.findIn K (.ref C) "__setattr__" = some (some (.builtin "object.__setattr__"))) && (decide (PySem.W.subIn K (.ref C) (.type "BaseException") = some true) && (decide (PySem.W.typeIn K (.ref C) = some (.type "type")) && (PySem.W.keepIn K (.ref C) &&
  (fields.all (fun n => decide (PySem.W.findIn K (.ref C) (Str.ofString n) = some none)) && (decide (PySem.W.findIn K (.ref C) "__getattribute__" = some (some (.builtin "BaseException.__getattribute__"))) && (decide (PySem.W.findIn K (.ref C) "__getattr__" = some none) && (PySem.W.hasDictIn K C &&
  (decide (PySem.W.findIn K (.ref C) "__init__" = some (some (.ref (He.ma K C "__init__")))) && decide (PySem.W.typeIn K (.ref (He.ma K C "__init__")) = some (.type "function")))))))))))
structure ExcFacts (K : PySem.W.Frag) (C : Addr) (fields : List String) : Prop where
  oex : OexC K C
  no : ∀ n ∈ fields, PySem.W.findIn K (.ref C) (Str.ofString n) = some none
  cat : CatchAt K C
  ini : PySem.W.findIn K (.ref C) "__init__" = some (some (.ref (He.ma K C "__init__")))
  ity : PySem.W.typeIn K (.ref (He.ma K C "__init__")) = some (.type "function")
theorem excB_ok {K : PySem.W.Frag} {C : Addr} {fields : List String} (h : excB K C fields = true) : ExcFacts K C fields := by
  unfold excB at h
  obtain ⟨q, h⟩ := He.ba h
  obtain ⟨h1, h⟩ := He.ba h
  obtain ⟨h2, h⟩ := He.ba h
  obtain ⟨h3, h⟩ := He.ba h
  obtain ⟨h4, h⟩ := He.ba h
  obtain ⟨h5, h⟩ := He.ba h
  obtain ⟨h6, h⟩ := He.ba h
  obtain ⟨h7, h⟩ := He.ba h
  obtain ⟨h8, h⟩ := He.ba h
  obtain ⟨h9, h10⟩ := He.ba h
  refine ⟨⟨?_, of_decide_eq_true h1, of_decide_eq_true h2, of_decide_eq_true h3, h4⟩, fun n hn => of_decide_eq_true (List.all_eq_true.mp h5 n hn), ⟨of_decide_eq_true h6, of_decide_eq_true h7, of_decide_eq_true h2, h8⟩, of_decide_eq_true h9, of_decide_eq_true h10⟩
  split at q
  · rename_i dd cd sl ho
    split at q
    · rename_i C' bm k0 k1 k2 k3 n k5 hm hs
      obtain ⟨q1, q⟩ := He.ba q
      obtain ⟨q2, q⟩ := He.ba q
      obtain ⟨q3, q⟩ := He.ba q
      obtain ⟨q4, q5⟩ := He.ba q
      have q1 := of_decide_eq_true q1
      have q2 := of_decide_eq_true q2
      subst q1 q2
      obtain ⟨nm, bs, mro, ns, qn, hd, sn, sub, ab, col, del⟩ := cd
      simp only [Bool.not_eq_true'] at hm q3 q4
      subst hm q3 q4
      obtain ⟨l⟩ := sl
      simp only at hs
      subst hs
      exact ⟨nm, qn, ns, bs, bm, sn, sub, ab, col, dd, k0, k1, k2, k3, k5, ho, q5⟩
    · cases q
  · cases q
/-- the base class whose __init__ is called by its name -/
def baseB (K : PySem.W.Frag) (C : Addr) : Bool := decide (PySem.W.specialIn K (.ref C) "__getattribute__" = some (some (.builtin "type.__getattribute__"))) && (PySem.W.readsIn K C (.type "type") && (match PySem.W.findCls K (.ref C) (.type "type") "__init__" with
  | some (.val (.builtin n)) => decide (n = "ValueError.__init__")
  | _ => false))
theorem baseB_ok {K : PySem.W.Frag} {C : Addr} (h : baseB K C = true) : BaseI K C := by
  unfold baseB at h
  obtain ⟨h1, h⟩ := He.ba h
  obtain ⟨h2, h3⟩ := He.ba h
  refine ⟨of_decide_eq_true h1, h2, ?_⟩
  split at h3
  · rename_i n e
    have h3 := of_decide_eq_true h3
    subst h3
    exact e
  · cases h3
/-- kinds, where no instance of a class of the program's own is met -/
theorem isi_base {c : Cfg} (hu : ∀ n, c.used n = false) : ∀ ty d, (∀ n, ty = .own n → c.used n = true) → (∀ n l, d = .obj n l → c.used n = true) → PySem.W.kitOne c.K (tyOf c d) (tyVal c ty) = some (dtype ty d) := by
  intro ty d h1 h2
  cases d with
  | obj n l =>
    have := h2 n l rfl
    rw [hu n] at this
    cases this
  | _ =>
    cases ty with
    | own n =>
      have := h1 n rfl
      rw [hu n] at this
      cases this
    | _ => first | exact kit_ty (show _ = some true by decide +kernel) | exact kit_ty (show _ = some false by decide +kernel)
end VC
set_option Elab.async false
set_option linter.all false
set_option maxRecDepth 100000
set_option maxHeartbeats 2000000
/-! VCzaa: exceptions as values: what one run of the top tells. -/
namespace VC
open PySem PySem.Spec PyProof.Rows L2
def excCB (K : PySem.W.Frag) (D : Addr) : Bool := decide (PySem.W.findIn K (.ref D) "__getattribute__" = some (some (.builtin "BaseException.__getattribute__"))) && (decide (PySem.W.findIn K (.ref D) "__getattr__" = some none) && (decide (PySem.W.subIn K (.ref D) (.type "BaseException") = some true) && (PySem.W.hasDictIn K D &&
  (decide (PySem.W.findIn K (.ref D) "__class__" = some (some (.builtin "object.__class__"))) && (decide (PySem.W.specialIn K (.builtin "object.__class__") "__get__" = some (some (.builtin "getset_descriptor.__get__"))) && (decide (PySem.W.takesIn K (.builtin "object.__class__") = some true) && decide (PySem.W.mroIn K D (.type "object") = some true)))))))
theorem excCB_ok {K : PySem.W.Frag} {D : Addr} (h : excCB K D = true) : L2.ExcC K D := by
  unfold excCB at h
  obtain ⟨h1, h⟩ := He.ba h
  obtain ⟨h2, h⟩ := He.ba h
  obtain ⟨h3, h⟩ := He.ba h
  obtain ⟨h4, h⟩ := He.ba h
  obtain ⟨h5, h⟩ := He.ba h
  obtain ⟨h6, h⟩ := He.ba h
  obtain ⟨h7, h8⟩ := He.ba h
  exact ⟨of_decide_eq_true h1, of_decide_eq_true h2, of_decide_eq_true h3, h4, of_decide_eq_true h5, of_decide_eq_true h6, of_decide_eq_true h7, of_decide_eq_true h8⟩
def tysV : List String := ["NoneType", "bool", "int", "str", "tuple", "list", "dict", "function"]
/-- which class stands over which -/
def isxB (K : PySem.W.Frag) (cl : Nat → Addr) (us : List Nat) : Bool := us.all (fun n => us.all fun m => decide (PySem.W.kitOne K (.ref (cl n)) (.ref (cl m)) = some (n == m || (m == 1999 && decide (1000 ≤ n))))) &&
  (us.all (fun m => tysV.all fun t => decide (PySem.W.kitOne K (.type t) (.ref (cl m)) = some false)) && us.all (fun n => tysV.all fun t => decide (t = "NoneType") || decide (PySem.W.kitOne K (.ref (cl n)) (.type t) = some false)))
theorem isi_exc {c : Cfg} {us : List Nat} (hu : ∀ n, c.used n = true → n ∈ us) (h : isxB c.K c.cl us = true) : ∀ ty d, (∀ n, ty = .own n → c.used n = true) → (∀ n l, d = .obj n l → c.used n = true) → PySem.W.kitOne c.K (tyOf c d) (tyVal c ty) = some (dtype ty d) := by
  intro ty d h1 h2
  unfold isxB at h
  obtain ⟨a1, h⟩ := He.ba h
  obtain ⟨a2, a3⟩ := He.ba h
  simp only [List.all_eq_true] at a1 a2 a3
  have g1 : ∀ n m, c.used n = true → c.used m = true → PySem.W.kitOne c.K (.ref (c.cl n)) (.ref (c.cl m)) = some (n == m || (m == 1999 && decide (1000 ≤ n))) := fun n m e1 e2 => of_decide_eq_true (a1 n (hu n e1) m (hu m e2))
  have g2 : ∀ m t, c.used m = true → t ∈ tysV → PySem.W.kitOne c.K (.type t) (.ref (c.cl m)) = some false := fun m t e1 e2 => of_decide_eq_true (a2 m (hu m e1) t e2)
  have g3 : ∀ n t, c.used n = true → t ∈ tysV → t ≠ "NoneType" → PySem.W.kitOne c.K (.ref (c.cl n)) (.type t) = some false := fun n t e1 e2 e3 => by
    have := a3 n (hu n e1) t e2
    simp only [Bool.or_eq_true, decide_eq_true_eq] at this
    exact this.resolve_left e3
  cases d with
  | obj n l =>
    have hn := h2 n l rfl
    cases ty with
    | own m =>
      have e : dtype (.own m) (.obj n l) = (n == m || (m == 1999 && decide (1000 ≤ n))) := by
        simp only [dtype]
        rw [show (m == n) = (n == m) from by rw [Bool.eq_iff_iff]; simp only [beq_iff_eq]; exact eq_comm]
      rw [e]
      exact g1 n m hn (h1 m rfl)
    | int => exact g3 n "int" hn (by decide) (by decide)
    | bool => exact g3 n "bool" hn (by decide) (by decide)
    | str => exact g3 n "str" hn (by decide) (by decide)
    | tuple => exact g3 n "tuple" hn (by decide) (by decide)
    | list => exact g3 n "list" hn (by decide) (by decide)
    | dict => exact g3 n "dict" hn (by decide) (by decide)
  | non => cases ty with
    | own m => exact g2 m "NoneType" (h1 m rfl) (by decide)
    | _ => first | exact kit_ty (show _ = some true by decide +kernel) | exact kit_ty (show _ = some false by decide +kernel)
  | bl b => cases ty with
    | own m => exact g2 m "bool" (h1 m rfl) (by decide)
    | _ => first | exact kit_ty (show _ = some true by decide +kernel) | exact kit_ty (show _ = some false by decide +kernel)
  | int i => cases ty with
    | own m => exact g2 m "int" (h1 m rfl) (by decide)
    | _ => first | exact kit_ty (show _ = some true by decide +kernel) | exact kit_ty (show _ = some false by decide +kernel)
  | str z => cases ty with
    | own m => exact g2 m "str" (h1 m rfl) (by decide)
    | _ => first | exact kit_ty (show _ = some true by decide +kernel) | exact kit_ty (show _ = some false by decide +kernel)
  | tup l => cases ty with
    | own m => exact g2 m "tuple" (h1 m rfl) (by decide)
    | _ => first | exact kit_ty (show _ = some true by decide +kernel) | exact kit_ty (show _ = some false by decide +kernel)
  | lst l => cases ty with
    | own m => exact g2 m "list" (h1 m rfl) (by decide)
    | _ => first | exact kit_ty (show _ = some true by decide +kernel) | exact kit_ty (show _ = some false by decide +kernel)
  | dic l => cases ty with
    | own m => exact g2 m "dict" (h1 m rfl) (by decide)
    | _ => first | exact kit_ty (show _ = some true by decide +kernel) | exact kit_ty (show _ = some false by decide +kernel)
  | pen => cases ty with
    | own m => exact g2 m "dict" (h1 m rfl) (by decide)
    | _ => first | exact kit_ty (show _ = some true by decide +kernel) | exact kit_ty (show _ = some false by decide +kernel)
  | lam k => cases ty with
    | own m => exact g2 m "function" (h1 m rfl) (by decide)
    | _ => first | exact kit_ty (show _ = some true by decide +kernel) | exact kit_ty (show _ = some false by decide +kernel)
/-- how a call by keywords binds, where no default stands -/
theorem kw_binds {K : PySem.W.Frag} {x qual : Str} {params : Arguments} {body : List Stmt} {scope : Scope} {kws : List (Str × V)} {f : Addr} {fd : FuncData} {ps : List Str} (F : FunD K x qual params body scope [] kws f fd) (ks : List Str) (pick : List Nat)
    (h : ∀ (kV doc pm : Value) (an : Option Addr) (cdv ct : Value) (us ws : List Value), us.length = 1 → ws.length = ks.length → bindArgs (PySem.W.fnOf x qual params body scope .none kV doc pm an cdv ct) ⟨us, ks.zip ws⟩ = pure (ps.zip (us ++ pickV ws pick)))
    (hr : ∀ {vs : List V} {us : List Value}, Vals vs us → Vals (pickV vs pick) (pickV us pick)) : KBn K fd ps 1 ks (fun us ws => us ++ pickV ws pick) (fun vs zs => vs ++ pickV zs pick) := by
  obtain ⟨oc, od, dV, kV, doc, pm, an, cdv, ct, osl, rfl, lk, hcd, hD, hK⟩ := F.ex
  rcases hD with ⟨_, rfl⟩ | ⟨e, _⟩
  · exact ⟨fun s us ws X l1 l2 => BindsTo.of_looks fun M => PySem.W.Looks.of_pure (h kV doc pm an cdv ct us ws l1 l2), fun r1 r2 => r1.append (hr r2)⟩
  · exact absurd rfl e
theorem pickV_vals : ∀ {ks : List Nat} {vs : List V} {us : List Value}, Vals vs us → Vals (pickV vs ks) (pickV us ks)
  | [], _, _, _ => .nil
  | k :: ks, vs, us, r => by
    unfold pickV
    have get : ∀ {k : Nat} {vs : List V} {us : List Value}, Vals vs us → (vs[k]? = none ∧ us[k]? = none) ∨ ∃ v u, vs[k]? = some v ∧ us[k]? = some u ∧ RelV v u := by
      intro k
      induction k with
      | zero =>
        intro vs us r
        cases r with
        | nil => exact .inl ⟨rfl, rfl⟩
        | cons a b => exact .inr ⟨_, _, rfl, rfl, a⟩
      | succ k ih =>
        intro vs us r
        cases r with
        | nil => exact .inl ⟨rfl, rfl⟩
        | cons a b => simpa using ih b
    rcases get (k := k) r with ⟨e1, e2⟩ | ⟨v, u, e1, e2, ru⟩
    · rw [e1, e2]
      exact pickV_vals r
    · rw [e1, e2]
      exact .cons ru (pickV_vals r)
/-- a def that raises an error of its parameters and catches it by its base's name -/
def caughtF (np : Nat) : List D → M D := fun l => if l.length = np then M.ret (.bl true) else M.bad
section
variable {P : Program} {w : World} {mg : Str → Option Value} {base : Heap} {f : Cf} {fa fd C Cb : Addr}
theorem caught_ok {k : Nat} {x qual : Str} {params : Arguments} {scope : Scope} {kws : List (Str × V)} {fa : Addr} {fd : FuncData} {e a b c : Str} {en : String} {names : List String} {j1 j2 : Nat} {p1 p2 p3 p4 p5 p6 p7 p8 p9 p10 p11 p12 : Pos}
    (F : FunD f.c.K x qual params [Stmt.Try [Stmt.Raise (some (Expr.Call (Expr.Name e p1) [Expr.Name a p2, Expr.Name b p3] [] p4)) none p5] [ExceptHandler.ExceptHandler (some (Expr.Name c p6)) none [Stmt.Return (some (Expr.Constant (.bool true) j1 p7)) p8] p9] [] [] p10, Stmt.Return (some (Expr.Constant (.bool false) j2 p11)) p12] scope [] kws fa fd)
    (S : FnScope [a, b] [a, b] scope) (T : ExcAt P w f.c.K mg base k en C names) (he : e = Str.ofString en) (hl : names.length = 2) (gc : mg c = some (.ref Cb)) (hex : PySem.W.exmOne f.c.K (.ref C) (.ref Cb) = some true)
    (ge : scope.names.lookup e = some .globalImplicit) (gcc : scope.names.lookup c = some .globalImplicit) (la : scope.names.lookup a = some .local) (lb : scope.names.lookup b = some .local) (d1 : (e == ("__debug__" : Str)) = false) (d2 : (c == ("__debug__" : Str)) = false)
    (d3 : (a == ("__debug__" : Str)) = false ∧ (a == ("__classdict__" : Str)) = false) (d4 : (b == ("__debug__" : Str)) = false ∧ (b == ("__classdict__" : Str)) = false) : FnG P w f.c.K mg base (k + 3) fa fd [a, b] (spF f 2 (caughtF 2)) := by
  obtain ⟨oc, od, dV, kV, doc, pm, an, cdv, ct, osl, rfl, lk, hcd, _, _⟩ := F.ex
  refine ⟨fun vs H Q E h => ?_, fun A outer sh H args us vs Q E hg hr e0 hb rv hsp => ?_⟩
  · obtain ⟨_, _, _, _, _, _, h, _⟩ := h
    exact h
  obtain ⟨H0, ds, st, sm, pen, rr, hlen, qq⟩ := hsp
  obtain ⟨fI, fdI, psI, iC, tI, FI, hbI⟩ := T.init
  have gl := T.gl
  rw [← he] at gl
  refine fnG.run_ofS' (k := k + 1) lk hcd S hr e0 hb rv hlen fun hr' => ?_
  have tk : Takes (bodyCx P w f mg base [a, b] qual scope fa cdv A outer sh H E) (fun cls d _ H => E cls d H) := takes_of rfl rfl rfl rfl
  refine ⟨_, pss_cons (ps_try_only (x := c) (c := .ref Cb) (X := bodyCx P w f mg base [a, b] qual scope fa cdv A outer sh H E) (ts := fun _ _ _ => tRet (L2.tC (.bl true))) (tb := fun W => fun _ σ H => tMkO C (spI C names) [] (tCons (tVar 0) (tCons (tVar 1) tNil)) σ H fun cls d H' => W cls d σ H') rfl rfl ⟨gcc, d2, .inl gc⟩ tk
    (fun W pn xe tkW _ => pss_one (ps_raise rfl tkW (pmk_oex (X := (bodyCx P w f mg base [a, b] qual scope fa cdv A outer sh H E).tr pn xe) T.oex iC tI FI (hr'.mono (by omega)) hbI .nil passL ge gl (pa_cons (pe_var (i := 0) rfl (.inl la) d3.1 d3.2) (pa_cons (pe_var (i := 1) rfl (.inl lb) d4.1 d4.2) pa_nil)) d1)))
    (fun ad oe cls d pn hz hf => pss_one (ps_ret pe_bl))) (pss_one (ps_ret pe_bl)), ?_⟩
  obtain ⟨v1, r1, e1⟩ : ∃ v1 r1, vs = v1 :: r1 := by
    cases vs with
    | nil => cases hlen
    | cons v1 r1 => exact ⟨v1, r1, rfl⟩
  subst e1
  obtain ⟨v2, r2, e2⟩ : ∃ v2 r2, r1 = v2 :: r2 := by
    cases r1 with
    | nil => cases hlen
    | cons v1 r1 => exact ⟨v1, r1, rfl⟩
  subst e2
  obtain rfl : r2 = [] := by
    cases r2 with
    | nil => rfl
    | cons _ _ => simp at hlen
  have hd : ds.length = 2 := by rw [← rr.length]; rfl
  unfold caughtF at qq
  rw [if_pos hd] at qq
  refine ⟨v1, rfl, v2, rfl, by show 2 ≤ 1000; decide, fun ad na => ⟨ad, [v1, v2], rfl, by rw [hl]; rfl, upd_same, fun z => (by rw [z] at hl; cases hl), fun _ dx ndx nda => ⟨rfl, dx, fldsOf names [v1, v2] [], upd_same, by rw [upd_ne nda, upd_same], ?_, ?_⟩⟩⟩
  · rw [upd_ne nda] at ndx
    exact ndx
  · rw [upd_ne nda] at ndx
    have ee : upd (del (upd (upd (upd H ad (exo ad C none)) dx (exd dx (fldsOf names [v1, v2] []))) ad (exo ad C (some dx))) ad) dx (.xd (fldsOf names [v1, v2] [])) = upd H dx (.xd (fldsOf names [v1, v2] [])) := by
      funext z
      by_cases z1 : z = dx
      · subst z1
        rw [upd_same, upd_same]
      · rw [upd_ne z1, upd_ne z1]
        by_cases z2 : z = ad
        · subst z2
          rw [del_same, na]
        · rw [del_ne z2, upd_ne z2, upd_ne z1, upd_ne z2]
    rw [ee]
    exact ⟨true, hex, fun _ a' na' => qq (.bl true) H0 _ (.loose sm ndx) (pen.loose ndx) (.bl true), fun z => by cases z⟩
end
end VC
set_option Elab.async false
set_option linter.all false
set_option maxRecDepth 100000
set_option maxHeartbeats 2000000
/-! VCzab: own classes: what one run of the top tells. -/
namespace VC
open PySem PySem.Spec PyProof.Rows L2
def objCB (K : PySem.W.Frag) (C : Addr) : Bool := PySem.W.plainGet K C Str.empty && (PySem.W.hasDictIn K C && (PySem.W.plainOver K C && (decide (PySem.W.findIn K (.ref C) "__setattr__" = some (some (.builtin "object.__setattr__"))) && (decide (PySem.W.findIn K (.ref C) "__class__" = some (some (.builtin "object.__class__"))) &&
  (decide (PySem.W.specialIn K (.builtin "object.__class__") "__get__" = some (some (.builtin "getset_descriptor.__get__"))) && (decide (PySem.W.takesIn K (.builtin "object.__class__") = some true) && decide (PySem.W.mroIn K C (.type "object") = some true)))))))
theorem objCB_ok {K : PySem.W.Frag} {C : Addr} (h : objCB K C = true) : ObjTy K C := by
  unfold objCB at h
  obtain ⟨h1, h⟩ := He.ba h
  obtain ⟨h2, h⟩ := He.ba h
  obtain ⟨h3, h⟩ := He.ba h
  obtain ⟨h4, h⟩ := He.ba h
  obtain ⟨h5, h⟩ := He.ba h
  obtain ⟨h6, h⟩ := He.ba h
  obtain ⟨h7, h8⟩ := He.ba h
  exact ⟨⟨h1, h2, h3, of_decide_eq_true h4⟩, of_decide_eq_true h5, of_decide_eq_true h6, of_decide_eq_true h7, of_decide_eq_true h8⟩
def mkCB (K : PySem.W.Frag) (C : Addr) : Bool := PySem.W.makesIn K C && (decide (PySem.W.findIn K (.ref C) "__init__" = some (some (.ref (He.ma K C "__init__")))) && (PySem.W.isFn K (.ref (He.ma K C "__init__")) && PySem.W.keepIn K (.ref C)))
theorem mkCB_ok {K : PySem.W.Frag} {C : Addr} (h : mkCB K C = true) : L2.Mk K C (He.ma K C "__init__") := by
  unfold mkCB at h
  obtain ⟨h1, h⟩ := He.ba h
  obtain ⟨h2, h⟩ := He.ba h
  obtain ⟨h3, h4⟩ := He.ba h
  exact ⟨h1, of_decide_eq_true h2, h3, h4⟩
def eqCB (K : PySem.W.Frag) (C : Addr) : Bool := decide (PySem.W.findIn K (.ref C) "__eq__" = some (some (.ref (He.ma K C "__eq__")))) && (PySem.W.isFn K (.ref (He.ma K C "__eq__")) && (eqClsB K C (He.ma K C "__eq__") && (match K.lookup (He.ma K C "__eq__") with
  | some fo => decide (fo.cls = .type "function")
  | none => false)))
structure EqFacts (K : PySem.W.Frag) (C : Addr) : Prop where
  at_ : PySem.W.findIn K (.ref C) "__eq__" = some (some (.ref (He.ma K C "__eq__")))
  fn : PySem.W.isFn K (.ref (He.ma K C "__eq__")) = true
  cls : eqClsB K C (He.ma K C "__eq__") = true
  obj : ∃ fo, K.lookup (He.ma K C "__eq__") = some fo ∧ fo.cls = .type "function"
theorem eqCB_ok {K : PySem.W.Frag} {C : Addr} (h : eqCB K C = true) : EqFacts K C := by
  unfold eqCB at h
  obtain ⟨h1, h⟩ := He.ba h
  obtain ⟨h2, h⟩ := He.ba h
  obtain ⟨h3, h4⟩ := He.ba h
  refine ⟨of_decide_eq_true h1, h2, h3, ?_⟩
  split at h4
  · rename_i fo e
    exact ⟨fo, e, of_decide_eq_true h4⟩
  · cases h4
def noFB (K : PySem.W.Frag) (C : Addr) (fields : List String) : Bool := fields.all fun n => decide (PySem.W.findIn K (.ref C) (Str.ofString n) = some none)
theorem noFB_ok {K : PySem.W.Frag} {C : Addr} {fields : List String} (h : noFB K C fields = true) : ∀ g ∈ fields, NoAttr K C (Str.ofString g) := fun g hg => show PySem.W.findIn K (.ref C) (Str.ofString g) = some none from of_decide_eq_true (List.all_eq_true.mp h g hg)
/-- nobody's == is asked ahead of its own -/
def nfB (K : PySem.W.Frag) (cl : Nat → Addr) (us : List Nat) : Bool := us.all (fun n => us.all fun m => PySem.W.notFirst K (cl n) (.ref (cl m))) && us.all fun n => tysV.all fun t => PySem.W.notFirst K (cl n) (.type t)
theorem nfB_ok {c : Cfg} {us : List Nat} (hu : ∀ n, c.used n = true → n ∈ us) (h : nfB c.K c.cl us = true) {n : Nat} (hn : c.used n = true) : ∀ d, (∀ m l, d = .obj m l → c.used m = true) → PySem.W.notFirst c.K (c.cl n) (tyOf c d) = true := by
  unfold nfB at h
  obtain ⟨h1, h2⟩ := He.ba h
  simp only [List.all_eq_true] at h1 h2
  intro d hd
  have g := h2 n (hu n hn)
  cases d with
  | obj m l => exact h1 n (hu n hn) m (hu m (hd m l rfl))
  | non => exact g "NoneType" (by decide)
  | bl _ => exact g "bool" (by decide)
  | int _ => exact g "int" (by decide)
  | str _ => exact g "str" (by decide)
  | tup _ => exact g "tuple" (by decide)
  | lst _ => exact g "list" (by decide)
  | dic _ => exact g "dict" (by decide)
  | pen => exact g "dict" (by decide)
  | lam _ => exact g "function" (by decide)
end VC
set_option Elab.async false
set_option linter.all false
set_option maxRecDepth 100000
set_option maxHeartbeats 2000000
/-! VCzb: the Hook whose written part holds the statics too (a class's attribute read asks them). -/
namespace VC
open PySem PySem.Spec PyProof.Rows L2
abbrev frY (g : Addr → Option Obj) (n : Nat) : PySem.W.Frag := He.frT g (He.asD g n ++ [PySem.cStatics])
def obsY (n : Nat) (fa : List He.Fa) (fn : List He.DefD) (tf : List He.Defn) (ex : PySem.W.Frag → Bool) (g : Addr → Option Obj) : He.AlX :=
  (He.obsT fa fn [] (frY g n), ex (frY g n) && He.tabsB g tf (frY g n))
theorem saysY {n : Nat} {fa : List He.Fa} {fn : List He.DefD} {tf : List He.Defn} {ex : PySem.W.Frag → Bool} {w : World} {h : Heap} (e : obsY n fa fn tf ex h.get? = He.valX fn [] w) : He.SaysX fa fn [] tf ex w h (frY h.get? n) := by
  have a : He.obsT fa fn [] (frY h.get? n) = He.valT fn [] w := (Prod.mk.inj e).1
  have b : (ex (frY h.get? n) && He.tabsB h.get? tf (frY h.get? n)) = true := (Prod.mk.inj e).2
  rw [Bool.and_eq_true] at b
  have k : ∀ p ∈ tf, PySem.W.codeHdIn (frY h.get? n) (He.cT (frY h.get? n) p).1 (He.cT (frY h.get? n) p).2 = true ∧ ∃ o, h.get? (He.cT (frY h.get? n) p).2 = some o ∧ He.emptyTab o = true := by
    intro p hp
    have c := List.all_eq_true.mp b.2 p hp
    rw [Bool.and_eq_true] at c
    refine ⟨c.1, ?_⟩
    revert c
    cases h.get? (He.cT (frY h.get? n) p).2 with
    | none => exact fun c => absurd c.2 (by simp)
    | some o => exact fun c => ⟨o, rfl, c.2⟩
  constructor
  · exact a
  · exact b.1
  · exact fun p hp => (k p hp).1
  · intro p hp
    obtain ⟨_, o, q1, q2⟩ := k p hp
    exact He.frT_none q1 q2
  · intro p hp
    obtain ⟨_, o, q1, q2⟩ := k p hp
    exact q1.trans (congrArg some (He.emptyTab_eq q2))
def hookY (n : Nat) (fa : List He.Fa) (fn : List He.DefD) (tf : List He.Defn) (ex : PySem.W.Frag → Bool) : PySem.W.Hook where
  α := He.AlX
  obs s := obsY n fa fn tf ex s.heap.get?
  val := He.valX fn []
  says w h := ∃ K : PySem.W.Frag, K.In h ∧ He.SaysX fa fn [] tf ex w h K
  of _ _ e := ⟨_, He.frT_in, saysY e⟩
  keeps := by
    rintro w h h' ⟨K, i, c⟩ k
    exact ⟨K, i.keeps k, { t := c.t, more := c.more, hd := c.hd, out := c.out, empty := fun p hp => k _ _ (c.empty p hp) }⟩
theorem obsY_eq {n : Nat} {fa : List He.Fa} {fn : List He.DefD} {tf : List He.Defn} {ex : PySem.W.Frag → Bool} {g : Addr → Option Obj} {s : Shared} (e : ∀ a, g a = s.heap.get? a) : obsY n fa fn tf ex g = (hookY n fa fn tf ex).obs s := by
  obtain rfl : g = s.heap.get? := funext e
  rfl
end VC
set_option Elab.async false
set_option linter.all false
set_option maxRecDepth 100000
set_option maxHeartbeats 1000000
namespace VC
/-! VCzc: triples; comprehensions without draws. -/
/-! ### triples -/
def Fold (s : PenSt) : Prop := 0 ≤ s.fold ∧ s.fold < 2 ^ 40
/-- m ends well whatever is drawn; it draws at most n times -/
def Tri {α : Type} (n : Nat) (m : M α) (Q : α → Prop) : Prop := ∀ s : PenSt, Fold s → s.count + n < 2 ^ 40 → ∃ a s', m s = .ok a s' ∧ Q a ∧ Fold s' ∧ s'.count ≤ s.count + n
theorem Tri.ret {α : Type} {n : Nat} {a : α} {Q : α → Prop} (h : Q a) : Tri n (M.ret a) Q := fun s f _ => ⟨a, s, rfl, h, f, by omega⟩
theorem Tri.bind {α β : Type} {n k : Nat} {m : M α} {f : α → M β} {Q : α → Prop} {R : β → Prop} (h : Tri n m Q) (g : ∀ a, Q a → Tri k (f a) R) : Tri (n + k) (M.bind m f) R := fun s fs hc => by
  obtain ⟨a, s1, e, q, f1, c1⟩ := h s fs (by omega)
  obtain ⟨b, s2, e2, q2, f2, c2⟩ := g a q s1 f1 (by omega)
  exact ⟨b, s2, by unfold M.bind; rw [e]; exact e2, q2, f2, by omega⟩
theorem Tri.mono {α : Type} {n k : Nat} {m : M α} {Q R : α → Prop} (h : Tri n m Q) (hn : n ≤ k) (hq : ∀ a, Q a → R a) : Tri k m R := fun s fs hc => by
  obtain ⟨a, s1, e, q, f1, c1⟩ := h s fs (by omega)
  exact ⟨a, s1, e, hq a q, f1, by omega⟩
theorem Tri.calm {α : Type} {n : Nat} {m : M α} {Q : α → Prop} (h : Tri n m Q) : Tri n (M.calm m) Q := fun s fs hc => by
  obtain ⟨a, s1, e, q, f1, c1⟩ := h s fs hc
  exact ⟨a, s1, by unfold M.calm; rw [e], q, f1, c1⟩
/-- a draw -/
theorem tri_draw {many : Int} (h1 : 0 < many) (h2 : many < 2 ^ 200) : Tri 1 (drawF [.pen, .int many]) (fun d => ∃ i : Int, d = .int i ∧ 0 ≤ i ∧ i < many) := fun s fs hc => by
  have ok : s.ok = true := by
    unfold PenSt.ok
    exact decide_eq_true ⟨fs.1, fs.2, by omega⟩
  have hd : Fold (drawS s) ∧ (drawS s).count = s.count + 1 := by
    unfold drawS Fold
    simp only
    split
    · split
      · exact ⟨fs, rfl⟩
      · exact ⟨⟨Int.fmod_nonneg_of_pos _ (by decide), Int.lt_trans (Int.fmod_lt_of_pos _ (by decide)) (by decide)⟩, rfl⟩
    · exact ⟨fs, rfl⟩
  have e : drawF [.pen, .int many] s = drawE many (drawS s) := by
    show (if 0 < many ∧ many < 2 ^ 200 ∧ s.ok = true then drawE many (drawS s) else .bad) = _
    rw [if_pos ⟨h1, h2, ok⟩]
  rw [e]
  unfold drawE
  split
  · exact ⟨_, _, rfl, ⟨_, rfl, Int.fmod_nonneg_of_pos _ h1, Int.fmod_lt_of_pos _ h1⟩, hd.1, by show (drawS s).count ≤ _; omega⟩
  · exact ⟨_, _, rfl, ⟨_, rfl, Int.fmod_nonneg_of_pos _ h1, Int.fmod_lt_of_pos _ h1⟩, hd.1, by omega⟩
theorem mapF_ret {f : D → M (Option D)} {g : D → Option D} : ∀ {l : List D}, (∀ d ∈ l, f d = M.ret (g d)) → mapF f l = M.ret (l.filterMap g)
  | [], _ => rfl
  | d :: ds, h => by
    unfold mapF
    rw [h d List.mem_cons_self, mapF_ret (fun x hx => h x (List.mem_cons_of_mem _ hx)), M.bind_ret, M.bind_ret]
    rw [List.filterMap_cons]
    cases g d <;> rfl
end VC
set_option Elab.async false
set_option linter.all false
set_option maxRecDepth 100000
set_option maxHeartbeats 1000000
/-! VCzd: the evaluator by rules, where nothing is drawn: each construct's value from its parts' values. -/
namespace VC
section
variable {Φ : Fns} {F : Flds} {ρ ρ' : Env} {a b c e r : E} {s u : S} {d x y : D} {i j : Nat} {ds : List D} {t : Bool} {fl : Flow}
/-! ### expressions -/
theorem v_var (h : ρ[i]? = some (.val d)) : ev Φ F (.var i) ρ = .ret d := by simp only [ev, h]
theorem v_bor {l : List D} (h : ρ[i]? = some (.own l)) : ev Φ F (.bor i) ρ = .ret (.lst l) := by simp only [ev, h]
theorem v_int {n : Int} : ev Φ F (.int n) ρ = .ret (.int n) := by simp only [ev]
theorem v_bl : ev Φ F (.bl t) ρ = .ret (.bl t) := by simp only [ev]
theorem v_non : ev Φ F .non ρ = .ret .non := by simp only [ev]
theorem v_str {z : String} : ev Φ F (.str z) ρ = .ret (.str (PySem.Str.ofString z)) := by simp only [ev]
theorem v_tup (h : evs Φ F r ρ = .ret ds) : ev Φ F (.tup r) ρ = .ret (.tup ds) := by simp only [ev, h, M.bind_ret]
theorem v_lst (h : evs Φ F r ρ = .ret ds) : ev Φ F (.lst r) ρ = .ret (.lst ds) := by simp only [ev, h, M.bind_ret]
theorem v_bin {o : Op2} {z : D} (h1 : ev Φ F a ρ = .ret x) (h2 : ev Φ F b ρ = .ret y) (h : d2 o x y = some z) : ev Φ F (.bin o a b) ρ = .ret z := by simp only [ev, h1, h2, h, M.bind_ret, M.of_some]
theorem v_neg {n : Int} (h : ev Φ F a ρ = .ret (.int n)) : ev Φ F (.neg a) ρ = .ret (.int (-n)) := by simp only [ev, h, M.bind_ret]
theorem v_no (h1 : ev Φ F a ρ = .ret x) (h : dtruth x = some t) : ev Φ F (.no a) ρ = .ret (.bl (!t)) := by simp only [ev, h1, h, M.bind_ret, M.of_some]
theorem v_cmp {o : Cmp} (h1 : ev Φ F a ρ = .ret x) (h2 : ev Φ F b ρ = .ret y) (h : dcmp o x y = some t) : ev Φ F (.cmp o a b) ρ = .ret (.bl t) := by simp only [ev, h1, h2, h, M.bind_ret, M.of_some]
theorem v_andT (h1 : ev Φ F a ρ = .ret x) (h : dtruth x = some true) : ev Φ F (.and a b) ρ = ev Φ F b ρ := by simp only [ev, h1, h, M.bind_ret, M.of_some, if_true]
theorem v_andF (h1 : ev Φ F a ρ = .ret x) (h : dtruth x = some false) : ev Φ F (.and a b) ρ = .ret x := by simp [ev, h1, h]
theorem v_orT (h1 : ev Φ F a ρ = .ret x) (h : dtruth x = some true) : ev Φ F (.or a b) ρ = .ret x := by simp only [ev, h1, h, M.bind_ret, M.of_some, if_true]
theorem v_orF (h1 : ev Φ F a ρ = .ret x) (h : dtruth x = some false) : ev Φ F (.or a b) ρ = ev Φ F b ρ := by simp [ev, h1, h]
theorem v_ite (h1 : ev Φ F c ρ = .ret x) (h : dtruth x = some t) : ev Φ F (.ite c a b) ρ = if t then ev Φ F a ρ else ev Φ F b ρ := by simp only [ev, h1, h, M.bind_ret, M.of_some]
theorem v_iteT (h1 : ev Φ F c ρ = .ret x) (h : dtruth x = some true) : ev Φ F (.ite c a b) ρ = ev Φ F a ρ := by simp only [ev, h1, h, M.bind_ret, M.of_some, if_true]
theorem v_iteF (h1 : ev Φ F c ρ = .ret x) (h : dtruth x = some false) : ev Φ F (.ite c a b) ρ = ev Φ F b ρ := by simp [ev, h1, h]
theorem v_call {n : Nat} (h : evs Φ F r ρ = .ret ds) : ev Φ F (.call n r) ρ = Φ n ds := by simp only [ev, h, M.bind_ret]
theorem v_bi {f : BI} (h1 : evs Φ F r ρ = .ret ds) (h : dbi f ds = some d) : ev Φ F (.bi f r) ρ = .ret d := by simp only [ev, h1, h, M.bind_ret, M.of_some]
theorem v_ix (h1 : ev Φ F a ρ = .ret x) (h2 : ev Φ F b ρ = .ret y) (h : dix x y = some d) : ev Φ F (.ix a b) ρ = .ret d := by simp only [ev, h1, h2, h, M.bind_ret, M.of_some]
theorem v_fld {g : String} (h1 : ev Φ F a ρ = .ret x) (h : fieldAt F g x = some d) : ev Φ F (.fld a g) ρ = .ret d := by simp only [ev, h1, h, M.bind_ret, M.of_some]
theorem v_listIt {k : It} {l : List D} (h1 : evs Φ F r ρ = .ret ds) (h : dItems k ds = some l) : ev Φ F (.listIt k r) ρ = .ret (.lst l) := by simp only [ev, h1, h, M.bind_ret, M.of_some]
theorem vs_nil : evs Φ F .nil ρ = .ret [] := by simp only [evs]
theorem vs_cons (h1 : ev Φ F a ρ = .ret x) (h2 : evs Φ F r ρ = .ret ds) : evs Φ F (.cons a r) ρ = .ret (x :: ds) := by simp only [evs, h1, h2, M.bind_ret]
/-- a comprehension without a test -/
theorem v_comp {tg : Tg} {k : It} {l : List D} {g : D → D} (h1 : evs Φ F r ρ = .ret ds) (h : dItems k ds = some l) (hg : ∀ d ∈ l, ∃ ρ', bindTg tg d (wipeD ρ tg.slots) = some ρ' ∧ ev Φ F e ρ' = .ret (g d)) : ev Φ F (.comp e tg k r .nil) ρ = .ret (.lst (l.map g)) := by
  simp only [ev, h1, h, M.bind_ret, M.of_some]
  rw [mapF_ret (g := fun d => some (g d)) (fun d hd => ?_), M.bind_ret, M.calm_ret, List.filterMap_eq_map']
  obtain ⟨ρ', e1, e2⟩ := hg d hd
  simp [e1, evc, e2]
/-- .. with a test -/
theorem v_compT {tg : Tg} {k : It} {l : List D} {g : D → D} {p : D → Bool} (h1 : evs Φ F r ρ = .ret ds) (h : dItems k ds = some l) (hg : ∀ d ∈ l, ∃ ρ' x, bindTg tg d (wipeD ρ tg.slots) = some ρ' ∧ ev Φ F c ρ' = .ret x ∧ dtruth x = some (p d) ∧ (p d = true → ev Φ F e ρ' = .ret (g d))) :
    ev Φ F (.comp e tg k r (.cons c .nil)) ρ = .ret (.lst ((l.filter p).map g)) := by
  simp only [ev, h1, h, M.bind_ret, M.of_some]
  rw [mapF_ret (g := fun d => if p d then some (g d) else none) (fun d hd => ?_), M.bind_ret, M.calm_ret]
  · have key : ∀ l : List D, l.filterMap (fun d => if p d then some (g d) else none) = (l.filter p).map g := fun l => by
      induction l with
      | nil => rfl
      | cons a l ih =>
        rw [List.filterMap_cons, List.filter_cons]
        cases p a <;> simp [ih]
    rw [key]
  · obtain ⟨ρ', x, e1, e2, e3, e4⟩ := hg d hd
    cases hp : p d with
    | true => simp [e1, evc, e2, e3, hp, e4 hp]
    | false => simp [e1, evc, e2, e3, hp]
theorem ixAt_nat {n j : Nat} (h : j < n) : ixAt n (j : Int) = some j := by
  unfold ixAt
  rw [if_pos (by omega), if_pos (by omega)]
  simp
theorem dix_tup {l : List D} (h : l[j]? = some d) : dix (.tup l) (.int (j : Nat)) = some d := by
  have hj := (List.getElem?_eq_some_iff.mp h).1
  simp only [dix, ixAt_nat hj, Option.bind_some, h]
theorem dix_lst {l : List D} (h : l[j]? = some d) : dix (.lst l) (.int (j : Nat)) = some d := by
  have hj := (List.getElem?_eq_some_iff.mp h).1
  simp only [dix, ixAt_nat hj, Option.bind_some, h]
/-! ### statements -/
theorem x_seq (h : exS Φ F s ρ = .ret (.nx ρ')) : exS Φ F (.seq s u) ρ = exS Φ F u ρ' := by simp only [exS, h, M.bind_ret]
theorem x_seqR (h : exS Φ F s ρ = .ret (.rt d)) : exS Φ F (.seq s u) ρ = .ret (.rt d) := by simp only [exS, h, M.bind_ret]
theorem x_skip : exS Φ F .skip ρ = .ret (.nx ρ) := by simp only [exS]
theorem x_set (h : ev Φ F e ρ = .ret d) : exS Φ F (.set i e) ρ = .ret (.nx (ρ.set i (.val d))) := by simp only [exS, h, M.bind_ret]
theorem x_own {l : List D} (h : ev Φ F e ρ = .ret (.lst l)) : exS Φ F (.own i e) ρ = .ret (.nx (ρ.set i (.own l))) := by simp only [exS, h, M.bind_ret]
theorem x_par {ts : List T} (h1 : evs Φ F r ρ = .ret ds) (h : parL Φ F ts ds ρ = .ret ρ') : exS Φ F (.par ts r) ρ = .ret (.nx ρ') := by simp only [exS, h1, h, M.bind_ret]
theorem x_append {l : List D} (h1 : ρ[i]? = some (.own l)) (h : ev Φ F e ρ = .ret d) (hz : l.length < 1000000) : exS Φ F (.append i e) ρ = .ret (.nx (ρ.set i (.own (l ++ [d])))) := by simp only [exS, ownAt, h1, h, M.bind_ret, if_pos hz]
theorem x_pop {l : List D} (h1 : ρ[i]? = some (.own l)) (h : l.getLast? = some d) : exS Φ F (.pop j i) ρ = .ret (.nx ((ρ.set i (.own l.dropLast)).set j (.val d))) := by simp only [exS, ownAt, h1, h, M.bind_ret, M.of_some]
theorem x_ite (h1 : ev Φ F c ρ = .ret x) (h : dtruth x = some t) : exS Φ F (.ite c s u) ρ = if t then exS Φ F s ρ else exS Φ F u ρ := by simp only [exS, h1, h, M.bind_ret, M.of_some]
theorem x_iteT (h1 : ev Φ F c ρ = .ret x) (h : dtruth x = some true) : exS Φ F (.ite c s u) ρ = exS Φ F s ρ := by simp only [exS, h1, h, M.bind_ret, M.of_some, if_true]
theorem x_iteF (h1 : ev Φ F c ρ = .ret x) (h : dtruth x = some false) : exS Φ F (.ite c s u) ρ = exS Φ F u ρ := by simp [exS, h1, h]
/-- an if whose branch is left out -/
theorem x_if0 (h1 : ev Φ F c ρ = .ret x) (h : dtruth x = some false) : exS Φ F (.ite c s .skip) ρ = .ret (.nx ρ) := (x_iteF h1 h).trans x_skip
theorem x_ret (h : ev Φ F e ρ = .ret d) : exS Φ F (.ret e) ρ = .ret (.rt d) := by simp only [exS, h, M.bind_ret]
theorem x_raise {n : Nat} (h : evs Φ F r ρ = .ret ds) : exS Φ F (.raise n r) ρ = .err ⟨n, ds⟩ := by simp only [exS, h, M.bind_ret]
theorem x_freeze {l : List D} (h : ρ[i]? = some (.own l)) : exS Φ F (.freeze i) ρ = .ret (.nx (ρ.set i (.val (.lst l)))) := by simp only [exS, ownAt, h, M.bind_ret]
/-- a for whose body goes on, by an invariant -/
theorem x_for {tg : Tg} {k : It} {l : List D} (g : Env → D → Env) (h1 : evs Φ F r ρ = .ret ds) (h : dItems k ds = some l) (I : List D → Env → Prop) (h0 : I l ρ) (hs : ∀ d l' σ, I (d :: l') σ → ∃ σ', bindTg tg d σ = some σ' ∧ exS Φ F s σ' = .ret (.nx (g σ d)) ∧ I l' (g σ d)) : exS Φ F (.for tg k r s) ρ = .ret (.nx (l.foldl g ρ)) := by
  simp only [exS, h1, h, M.bind_ret, M.of_some]
  clear h h1
  induction l generalizing ρ with
  | nil => rfl
  | cons d l ih =>
    obtain ⟨σ', e1, e2, e3⟩ := hs d l ρ h0
    unfold forL
    simp only [e1, e2, M.bind_ret]
    exact ih e3
/-- a def -/
theorem f_run {np n : Nat} (hl : ds.length = np) (h : exS Φ F s (ds.map SD.val ++ List.replicate (n - ds.length) .no) = .ret (.rt d)) : defF np Φ F s n ds = .ret d := by
  unfold defF runF
  rw [if_pos hl, h, M.bind_ret]
end
end VC
set_option Elab.async false
set_option linter.all false
set_option maxRecDepth 100000
set_option maxHeartbeats 1000000
/-! VCze: while by a measure; for by an invariant; draws in expressions and statements (triples). -/
namespace VC
section
variable {Φ : Fns} {F : Flds} {ρ ρ' : Env} {a b c e r : E} {s u : S} {d x y : D} {i j : Nat} {ds : List D} {t : Bool} {fl : Flow}
theorem fuel_big {n : Nat} (h : n < 10 ^ 15) : n < FUEL := by
  unfold FUEL
  exact h
/-- a while, its measure falls -/
theorem x_while (I : Nat → Env → Prop) (Q : Env → Prop) (hs : ∀ n ρ, I n ρ → (∃ x, ev Φ F c ρ = .ret x ∧ dtruth x = some false ∧ Q ρ) ∨ ∃ x, ev Φ F c ρ = .ret x ∧ dtruth x = some true ∧ ∃ ρ' n', n' < n ∧ (exS Φ F s ρ = .ret (.nx ρ') ∨ exS Φ F s ρ = .ret (.ct ρ')) ∧ I n' ρ')
    {n : Nat} (h0 : I n ρ) (hn : n < 10 ^ 15) : ∃ ρ', exS Φ F (.while c s) ρ = .ret (.nx ρ') ∧ Q ρ' := by
  simp only [exS]
  have key : ∀ (k n : Nat) (ρ : Env), n < k → I n ρ → ∃ ρ', whileL (fun ρ => .bind (ev Φ F c ρ) fun x => .of (dtruth x)) (fun ρ => exS Φ F s ρ) k ρ = .ret (.nx ρ') ∧ Q ρ' := by
    intro k
    induction k with
    | zero => intro n ρ h _; omega
    | succ k ih =>
      intro n ρ h hi
      unfold whileL
      rcases hs n ρ hi with ⟨x, e1, e2, q⟩ | ⟨x, e1, e2, ρ', n', hl, e3, hi'⟩
      · exact ⟨ρ, by simp [e1, e2], q⟩
      · obtain ⟨ρ'', e4, q⟩ := ih n' ρ' (by omega) hi'
        refine ⟨ρ'', ?_, q⟩
        rcases e3 with e3 | e3 <;> simp only [e1, e2, e3, M.bind_ret, M.of_some, if_true] <;> exact e4
  exact key FUEL n ρ (fuel_big hn) h0
/-- a for, by an invariant over what is left -/
theorem x_forI {tg : Tg} {k : It} {l : List D} (I : List D → Env → Prop) (h1 : evs Φ F r ρ = .ret ds) (h : dItems k ds = some l) (h0 : I l ρ)
    (hs : ∀ d l' σ, I (d :: l') σ → ∃ σ' σ'', bindTg tg d σ = some σ' ∧ (exS Φ F s σ' = .ret (.nx σ'') ∨ exS Φ F s σ' = .ret (.ct σ'')) ∧ I l' σ'') : ∃ ρ', exS Φ F (.for tg k r s) ρ = .ret (.nx ρ') ∧ I [] ρ' := by
  simp only [exS, h1, h, M.bind_ret, M.of_some]
  clear h h1
  induction l generalizing ρ with
  | nil => exact ⟨ρ, rfl, h0⟩
  | cons d l ih =>
    obtain ⟨σ', σ'', e1, e2, e3⟩ := hs d l ρ h0
    obtain ⟨ρ', e4, e5⟩ := ih e3
    refine ⟨ρ', ?_, e5⟩
    unfold forL
    rcases e2 with e2 | e2 <;> simp only [e1, e2, M.bind_ret] <;> exact e4
/-! ### with draws -/
theorem Tri.eq {α : Type} {n : Nat} {m : M α} {a : α} {Q : α → Prop} (h : m = .ret a) (q : Q a) : Tri n m Q := by
  rw [h]
  exact .ret q
/-- a comprehension's items, one after another -/
theorem tri_mapF {k : Nat} {f : D → M (Option D)} {R : D → D → Prop} : ∀ {l : List D}, (∀ d ∈ l, Tri k (f d) fun o => ∃ x, o = some x ∧ R d x) → Tri (k * l.length) (mapF f l) fun (xs : List D) => xs.length = l.length ∧ ∀ (j : Nat) (d x : D), l[j]? = some d → xs[j]? = some x → R d x
  | [], _ => .ret ⟨rfl, fun j d x h => by simp at h⟩
  | d :: ds, h => by
    unfold mapF
    have h1 := h d List.mem_cons_self
    have h2 := tri_mapF (k := k) (f := f) (R := R) (l := ds) fun y hy => h y (List.mem_cons_of_mem _ hy)
    have key : Tri (k + (k * ds.length + 0)) (M.bind (f d) fun o => M.bind (mapF f ds) fun l => M.ret (match o with | some x => x :: l | none => l)) (fun xs : List D => xs.length = (d :: ds).length ∧ ∀ (j : Nat) (e x : D), (d :: ds)[j]? = some e → xs[j]? = some x → R e x) :=
      Tri.bind h1 fun o ho => Tri.bind h2 fun xs hx => by
        obtain ⟨x, rfl, hR⟩ := ho
        refine Tri.ret ⟨by simp [hx.1], fun j e y e1 e2 => ?_⟩
        cases j with
        | zero => cases e1; cases e2; exact hR
        | succ j => exact hx.2 j e y (by simpa using e1) (by simpa using e2)
    exact key.mono (by rw [List.length_cons, Nat.mul_succ]; omega) fun _ z => z
theorem tri_comp {k : Nat} {tg : Tg} {kk : It} {l : List D} {R : D → D → Prop} (h1 : evs Φ F r ρ = .ret ds) (h : dItems kk ds = some l) (hg : ∀ d ∈ l, ∃ ρ', bindTg tg d (wipeD ρ tg.slots) = some ρ' ∧ Tri k (ev Φ F e ρ') (R d)) :
    Tri (k * l.length) (ev Φ F (.comp e tg kk r .nil) ρ) fun v => ∃ xs : List D, v = .lst xs ∧ xs.length = l.length ∧ ∀ (j : Nat) (d x : D), l[j]? = some d → xs[j]? = some x → R d x := by
  simp only [ev, h1, h, M.bind_ret, M.of_some]
  refine Tri.calm ?_
  have h2 : Tri (k * l.length) (mapF (fun d => match bindTg tg d (wipeD ρ tg.slots) with
        | none => .bad
        | some ρ' => .bind (evc Φ F .nil ρ') fun t => if t then .bind (ev Φ F e ρ') fun x => .ret (some x) else .ret none) l) _ := tri_mapF (k := k) (R := R) fun d hd => by
    obtain ⟨ρ', e1, e2⟩ := hg d hd
    simp only [e1, evc, M.bind_ret, if_true]
    exact (Tri.bind (k := 0) e2 fun x hx => Tri.ret (Q := fun o => ∃ x, o = some x ∧ R d x) ⟨x, rfl, hx⟩).mono (by omega) fun _ z => z
  exact (Tri.bind (k := 0) h2 fun xs hx => Tri.ret ⟨xs, rfl, hx⟩).mono (by omega) fun _ z => z
end
end VC
set_option Elab.async false
set_option linter.all false
set_option maxRecDepth 100000
set_option maxHeartbeats 1000000
/-! VCzf: triples for expressions and statements in which there are draws. -/
namespace VC
section
variable {Φ : Fns} {F : Flds} {ρ ρ' : Env} {a b c e r : E} {s u : S} {i j n k m : Nat}
theorem Tri.pure {α β : Type} {m : M α} {g : α → M β} {P : α → Prop} {R : β → Prop} (h : Tri n m P) (q : ∀ a, P a → Tri 0 (g a) R) : Tri n (M.bind m g) R := Tri.bind (k := 0) h q
theorem ts_nil : Tri n (evs Φ F .nil ρ) (fun ds => ds = []) := .eq vs_nil rfl
theorem ts_cons {P : D → Prop} {Q : List D → Prop} (h1 : Tri n (ev Φ F a ρ) P) (h2 : Tri k (evs Φ F r ρ) Q) : Tri (n + k) (evs Φ F (.cons a r) ρ) (fun ds => ∃ x xs, ds = x :: xs ∧ P x ∧ Q xs) := by
  simp only [evs]
  exact Tri.bind h1 fun x hx => Tri.pure h2 fun xs hxs => .ret ⟨x, xs, rfl, hx, hxs⟩
theorem te_call {f : Nat} {P : List D → Prop} {R : D → Prop} (h1 : Tri n (evs Φ F r ρ) P) (h2 : ∀ ds, P ds → Tri k (Φ f ds) R) : Tri (n + k) (ev Φ F (.call f r) ρ) R := by
  simp only [ev]
  exact Tri.bind h1 h2
theorem te_bi {f : BI} {P : List D → Prop} {R : D → Prop} (h1 : Tri n (evs Φ F r ρ) P) (h2 : ∀ ds, P ds → ∃ d, dbi f ds = some d ∧ R d) : Tri n (ev Φ F (.bi f r) ρ) R := by
  simp only [ev]
  refine Tri.pure h1 fun ds hd => ?_
  obtain ⟨d, e, q⟩ := h2 ds hd
  rw [e]
  exact .ret q
theorem te_bin {o : Op2} {P Q R : D → Prop} (h1 : Tri n (ev Φ F a ρ) P) (h2 : Tri k (ev Φ F b ρ) Q) (h : ∀ x y, P x → Q y → ∃ z, d2 o x y = some z ∧ R z) : Tri (n + k) (ev Φ F (.bin o a b) ρ) R := by
  simp only [ev]
  refine Tri.bind h1 fun x hx => Tri.pure h2 fun y hy => ?_
  obtain ⟨z, e, q⟩ := h x y hx hy
  rw [e]
  exact .ret q
theorem te_cmp {o : Cmp} {P Q : D → Prop} {R : Bool → Prop} (h1 : Tri n (ev Φ F a ρ) P) (h2 : Tri k (ev Φ F b ρ) Q) (h : ∀ x y, P x → Q y → ∃ t, dcmp o x y = some t ∧ R t) : Tri (n + k) (ev Φ F (.cmp o a b) ρ) (fun d => ∃ t, d = .bl t ∧ R t) := by
  simp only [ev]
  refine Tri.bind h1 fun x hx => Tri.pure h2 fun y hy => ?_
  obtain ⟨z, e, q⟩ := h x y hx hy
  rw [e]
  exact .ret ⟨z, rfl, q⟩
theorem te_ix {P Q R : D → Prop} (h1 : Tri n (ev Φ F a ρ) P) (h2 : Tri k (ev Φ F b ρ) Q) (h : ∀ x y, P x → Q y → ∃ z, dix x y = some z ∧ R z) : Tri (n + k) (ev Φ F (.ix a b) ρ) R := by
  simp only [ev]
  refine Tri.bind h1 fun x hx => Tri.pure h2 fun y hy => ?_
  obtain ⟨z, e, q⟩ := h x y hx hy
  rw [e]
  exact .ret q
theorem te_tup {P : List D → Prop} (h : Tri n (evs Φ F r ρ) P) : Tri n (ev Φ F (.tup r) ρ) (fun d => ∃ l, d = .tup l ∧ P l) := by
  simp only [ev]
  exact Tri.pure h fun l hl => .ret ⟨l, rfl, hl⟩
theorem te_lst {P : List D → Prop} (h : Tri n (evs Φ F r ρ) P) : Tri n (ev Φ F (.lst r) ρ) (fun d => ∃ l, d = .lst l ∧ P l) := by
  simp only [ev]
  exact Tri.pure h fun l hl => .ret ⟨l, rfl, hl⟩
theorem te_ite {P : D → Prop} {R : D → Prop} (h1 : Tri n (ev Φ F c ρ) P) (h : ∀ x, P x → ∃ t, dtruth x = some t ∧ (t = true → Tri k (ev Φ F a ρ) R) ∧ (t = false → Tri k (ev Φ F b ρ) R)) : Tri (n + k) (ev Φ F (.ite c a b) ρ) R := by
  simp only [ev]
  refine Tri.bind h1 fun x hx => ?_
  obtain ⟨t, e, q1, q2⟩ := h x hx
  rw [e, M.of_some, M.bind_ret]
  cases t with
  | true => exact q1 rfl
  | false => exact q2 rfl
/-! ### statements -/
theorem tx_seq {P : Env → Prop} {R : Flow → Prop} (h1 : Tri n (exS Φ F s ρ) (fun fl => ∃ ρ', fl = .nx ρ' ∧ P ρ')) (h2 : ∀ ρ', P ρ' → Tri k (exS Φ F u ρ') R) : Tri (n + k) (exS Φ F (.seq s u) ρ) R := by
  simp only [exS]
  refine Tri.bind h1 fun fl hf => ?_
  obtain ⟨ρ', rfl, hp⟩ := hf
  exact h2 ρ' hp
/-- a statement behind one that draws nothing -/
theorem tx_skipTo {R : Flow → Prop} (h1 : exS Φ F s ρ = .ret (.nx ρ')) (h2 : Tri k (exS Φ F u ρ') R) : Tri k (exS Φ F (.seq s u) ρ) R := by
  rw [x_seq h1]
  exact h2
theorem tx_set {P : D → Prop} (h : Tri n (ev Φ F e ρ) P) : Tri n (exS Φ F (.set i e) ρ) (fun fl => ∃ ρ', fl = .nx ρ' ∧ ∃ d, ρ' = ρ.set i (.val d) ∧ P d) := by
  simp only [exS]
  exact Tri.pure h fun d hd => .ret ⟨_, rfl, d, rfl, hd⟩
theorem tx_own {P : List D → Prop} (h : Tri n (ev Φ F e ρ) (fun d => ∃ l, d = .lst l ∧ P l)) : Tri n (exS Φ F (.own i e) ρ) (fun fl => ∃ ρ', fl = .nx ρ' ∧ ∃ l, ρ' = ρ.set i (.own l) ∧ P l) := by
  simp only [exS]
  refine Tri.pure h fun d hd => ?_
  obtain ⟨l, rfl, hl⟩ := hd
  exact .ret ⟨_, rfl, l, rfl, hl⟩
theorem tx_par {ts : List T} {P : List D → Prop} {R : Env → Prop} (h : Tri n (evs Φ F r ρ) P) (q : ∀ ds, P ds → ∃ ρ', parL Φ F ts ds ρ = .ret ρ' ∧ R ρ') : Tri n (exS Φ F (.par ts r) ρ) (fun fl => ∃ ρ', fl = .nx ρ' ∧ R ρ') := by
  simp only [exS]
  refine Tri.pure h fun ds hd => ?_
  obtain ⟨ρ', e, hr⟩ := q ds hd
  rw [e]
  exact .ret ⟨ρ', rfl, hr⟩
theorem tx_append {l : List D} {P : D → Prop} (h1 : ρ[i]? = some (.own l)) (hz : l.length < 1000000) (h : Tri n (ev Φ F e ρ) P) : Tri n (exS Φ F (.append i e) ρ) (fun fl => ∃ ρ', fl = .nx ρ' ∧ ∃ d, ρ' = ρ.set i (.own (l ++ [d])) ∧ P d) := by
  simp only [exS, ownAt, h1, M.bind_ret, if_pos hz]
  exact Tri.pure h fun d hd => .ret ⟨_, rfl, d, rfl, hd⟩
theorem tx_ite {P : D → Prop} {R : Flow → Prop} (h1 : Tri n (ev Φ F c ρ) P) (h : ∀ x, P x → ∃ t, dtruth x = some t ∧ (t = true → Tri k (exS Φ F s ρ) R) ∧ (t = false → Tri k (exS Φ F u ρ) R)) : Tri (n + k) (exS Φ F (.ite c s u) ρ) R := by
  simp only [exS]
  refine Tri.bind h1 fun x hx => ?_
  obtain ⟨t, e, q1, q2⟩ := h x hx
  rw [e, M.of_some, M.bind_ret]
  cases t with
  | true => exact q1 rfl
  | false => exact q2 rfl
theorem tx_ret {P : D → Prop} (h : Tri n (ev Φ F e ρ) P) : Tri n (exS Φ F (.ret e) ρ) (fun fl => ∃ d, fl = .rt d ∧ P d) := by
  simp only [exS]
  exact Tri.pure h fun d hd => .ret ⟨d, rfl, hd⟩
theorem tx_seqR {P : D → Prop} (h : Tri n (exS Φ F s ρ) (fun fl => ∃ d, fl = .rt d ∧ P d)) : Tri n (exS Φ F (.seq s u) ρ) (fun fl => ∃ d, fl = .rt d ∧ P d) := by
  simp only [exS]
  refine Tri.pure h fun fl hf => ?_
  obtain ⟨d, rfl, hd⟩ := hf
  exact .ret ⟨d, rfl, hd⟩
theorem tx_for {tg : Tg} {kk : It} {P : List D → Prop} (I : Nat → Env → Prop) (N : Nat) (h1 : Tri n (evs Φ F r ρ) P) (h : ∀ ds, P ds → ∃ l, dItems kk ds = some l ∧ l.length ≤ N ∧ I 0 ρ ∧ ∀ (j : Nat) d σ, l[j]? = some d → I j σ → ∃ σ', bindTg tg d σ = some σ' ∧ Tri k (exS Φ F s σ') (fun fl => ∃ σ'', (fl = .nx σ'' ∨ fl = .ct σ'') ∧ I (j + 1) σ'')) :
    Tri (n + k * N) (exS Φ F (.for tg kk r s) ρ) (fun fl => ∃ ρ', fl = .nx ρ' ∧ ∃ ds l, P ds ∧ dItems kk ds = some l ∧ I l.length ρ') := by
  simp only [exS]
  refine Tri.bind h1 fun ds hd => ?_
  obtain ⟨l, e, hN, h0, hs⟩ := h ds hd
  rw [e, M.of_some, M.bind_ret]
  have key : ∀ (l' : List D) (j : Nat) (σ : Env), (∀ i d, l'[i]? = some d → l[j + i]? = some d) → j + l'.length = l.length → I j σ → Tri (k * l'.length) (forL (fun d ρ => match bindTg tg d ρ with
        | none => .bad
        | some ρ' => exS Φ F s ρ') l' σ) (fun fl => ∃ ρ', fl = .nx ρ' ∧ I l.length ρ') := by
    intro l'
    induction l' with
    | nil =>
      intro j σ _ hj hi
      unfold forL
      have : j = l.length := by simpa using hj
      subst this
      exact .ret ⟨σ, rfl, hi⟩
    | cons d l' ih =>
      intro j σ hl hj hi
      obtain ⟨σ', e1, t1⟩ := hs j d σ (by simpa using hl 0 d rfl) hi
      unfold forL
      simp only [e1]
      have := Tri.bind (k := k * l'.length) (R := fun fl => ∃ ρ', fl = .nx ρ' ∧ I l.length ρ') t1 (f := fun r => match r with
        | .nx ρ' => forL (fun d ρ => match bindTg tg d ρ with
          | none => .bad
          | some ρ' => exS Φ F s ρ') l' ρ'
        | .ct ρ' => forL (fun d ρ => match bindTg tg d ρ with
          | none => .bad
          | some ρ' => exS Φ F s ρ') l' ρ'
        | .bk ρ' => .ret (.nx ρ')
        | .rt x => .ret (.rt x)) fun fl hf => by
          obtain ⟨σ'', hf, hi'⟩ := hf
          have := ih (j + 1) σ'' (fun i d hd => by rw [show j + 1 + i = j + (i + 1) by omega]; exact hl (i + 1) d (by simpa using hd)) (by simp only [List.length_cons] at hj; omega) hi'
          rcases hf with rfl | rfl <;> exact this
      exact this.mono (by rw [List.length_cons, Nat.mul_succ]; omega) fun _ z => z
  exact (key l 0 ρ (fun i d hd => by simpa using hd) (by simp) h0).mono (Nat.mul_le_mul_left _ hN) fun fl ⟨ρ', e1, e2⟩ => ⟨ρ', e1, ds, l, hd, e, e2⟩
/-- a def -/
theorem tf_run {np N : Nat} {ds : List D} {P : D → Prop} (hl : ds.length = np) (h : Tri n (exS Φ F s (ds.map SD.val ++ List.replicate (N - ds.length) .no)) (fun fl => ∃ d, fl = .rt d ∧ P d)) : Tri n (defF np Φ F s N ds) P := by
  unfold defF runF
  rw [if_pos hl]
  refine Tri.pure h fun fl hf => ?_
  obtain ⟨d, rfl, hp⟩ := hf
  exact .ret hp
end
end VC
set_option Elab.async false
set_option linter.all false
set_option maxRecDepth 100000
set_option maxHeartbeats 1000000
/-! VCzg: plain numbers and rows of them as values; comprehensions over any row; for loops counted; sums of stores. -/
namespace VC
open PySem
/-- a plain number -/
def nd (n : Nat) : D := .int n
def nds (l : List Nat) : List D := l.map nd
theorem upTo_eq : ∀ (n : Nat) (a : Int), upTo a n = (List.range n).map fun (j : Nat) => D.int (a + j)
  | 0, _ => rfl
  | n + 1, a => by
    unfold upTo
    rw [upTo_eq n, List.range_succ_eq_map, List.map_cons, List.map_map]
    congr 1
    · simp
    · refine List.map_congr_left fun j _ => ?_
      simp only [Function.comp]
      congr 1
      omega
theorem range_items {n : Nat} (h : n ≤ 1000000) : dItems .range [nd n] = some (nds (List.range n)) := by
  unfold dItems nd dRange
  simp only
  rw [if_pos (by omega), upTo_eq]
  simp only [Int.toNat_natCast, nds]
  congr 1
  refine List.map_congr_left fun j _ => ?_
  simp [nd]
theorem deq_ints (a b : Int) : deq (.int a) (.int b) = some (decide (a = b)) := by
  unfold deq
  have h1 : lays (.int a) = true := rfl
  have h2 : lays (.int b) = true := rfl
  have h3 : SeqAt.shaped (D.int a).py = true := rfl
  have h4 : SeqAt.shaped (D.int b).py = true := rfl
  rw [h1, h2, h3, h4]
  simp [D.py, PyData.eqv]
  rfl
theorem cmpq_eq (a b : Int) : dcmp .eq (.int a) (.int b) = some (decide (a = b)) := deq_ints a b
theorem cmpq_ne (a b : Int) : dcmp .ne (.int a) (.int b) = some (!decide (a = b)) := by
  show (deq (.int a) (.int b)).map (!·) = _
  rw [deq_ints]
  rfl
theorem eqv_ints (a b : Int) : PyData.eqv (.int a) (.int b) = decide (a = b) := by
  simp [PyData.eqv]
  rfl
theorem dIn_ints (a : Int) (l : List Int) : dIn (.int a) (.lst (l.map .int)) = some (decide (a ∈ l)) := by
  unfold dIn
  have h1 : lays (.int a) = true := rfl
  have h3 : SeqAt.shaped (D.int a).py = true := rfl
  rw [h1, h3]
  simp only [items?, Bool.and_self, if_true, Option.bind_some]
  rw [if_pos (List.all_eq_true.mpr fun d hd => by obtain ⟨i, _, rfl⟩ := List.mem_map.mp hd; rfl)]
  congr 1
  rw [Bool.eq_iff_iff, List.any_eq_true, decide_eq_true_iff]
  constructor
  · rintro ⟨d, hd, e⟩
    obtain ⟨i, hi, rfl⟩ := List.mem_map.mp hd
    rw [show (D.int i).py = .int i from rfl, show (D.int a).py = .int a from rfl, eqv_ints, decide_eq_true_iff] at e
    exact e ▸ hi
  · intro h
    exact ⟨.int a, List.mem_map.mpr ⟨a, h, rfl⟩, (eqv_ints a a).trans (decide_eq_true rfl)⟩
theorem nds_ints (l : List Nat) : nds l = (l.map (Int.ofNat ·)).map D.int := by rw [List.map_map]; rfl
theorem dIn_nat (a : Nat) (l : List Nat) : dIn (nd a) (.lst (nds l)) = some (decide (a ∈ l)) := by
  rw [nds_ints, nd, dIn_ints]
  congr 1
  rw [decide_eq_decide, List.mem_map]
  constructor
  · rintro ⟨b, hb, e⟩
    have : b = a := Int.ofNat.inj e
    exact this ▸ hb
  · intro h
    exact ⟨a, h, rfl⟩
section
variable {Φ : Fns} {F : Flds} {ρ ρ' : Env} {a b c e r : E} {s u : S} {d x y : D} {i j : Nat} {ds : List D} {t : Bool} {fl : Flow}
theorem v_nd {n : Nat} : ev Φ F (.int (n : Nat)) ρ = .ret (nd n) := v_int
theorem mapF_of {α : Type} {f : D → M (Option D)} (h : α → D) {g : α → Option D} : ∀ {l : List α}, (∀ a ∈ l, f (h a) = M.ret (g a)) → mapF f (l.map h) = M.ret (l.filterMap g)
  | [], _ => rfl
  | d :: ds, hh => by
    rw [List.map_cons]
    unfold mapF
    rw [hh d List.mem_cons_self, mapF_of h (fun x hx => hh x (List.mem_cons_of_mem _ hx)), M.bind_ret, M.bind_ret]
    rw [List.filterMap_cons]
    cases g d <;> rfl
/-- a comprehension over items of any kind, with a test -/
theorem v_compA {α : Type} {tg : Tg} {k : It} {l : List α} (f : α → D) (p : α → Bool) (g : α → D) (h1 : evs Φ F r ρ = .ret ds) (h : dItems k ds = some (l.map f)) (hg : ∀ a ∈ l, ∃ ρ' x, bindTg tg (f a) (wipeD ρ tg.slots) = some ρ' ∧ ev Φ F c ρ' = .ret x ∧ dtruth x = some (p a) ∧ (p a = true → ev Φ F e ρ' = .ret (g a))) :
    ev Φ F (.comp e tg k r (.cons c .nil)) ρ = .ret (.lst ((l.filter p).map g)) := by
  simp only [ev, h1, h, M.bind_ret, M.of_some]
  rw [mapF_of f (g := fun d => if p d then some (g d) else none) (fun d hd => ?_), M.bind_ret, M.calm_ret]
  · have key : ∀ l : List α, l.filterMap (fun d => if p d then some (g d) else none) = (l.filter p).map g := fun l => by
      induction l with
      | nil => rfl
      | cons a l ih =>
        rw [List.filterMap_cons, List.filter_cons]
        cases p a <;> simp [ih]
    rw [key]
  · obtain ⟨ρ', x, e1, e2, e3, e4⟩ := hg d hd
    cases hp : p d with
    | true => simp [e1, evc, e2, e3, hp, e4 hp]
    | false => simp [e1, evc, e2, e3, hp]
/-- .. without -/
theorem v_compB {α : Type} {tg : Tg} {k : It} {l : List α} (f g : α → D) (h1 : evs Φ F r ρ = .ret ds) (h : dItems k ds = some (l.map f)) (hg : ∀ a ∈ l, ∃ ρ', bindTg tg (f a) (wipeD ρ tg.slots) = some ρ' ∧ ev Φ F e ρ' = .ret (g a)) :
    ev Φ F (.comp e tg k r .nil) ρ = .ret (.lst (l.map g)) := by
  simp only [ev, h1, h, M.bind_ret, M.of_some]
  rw [mapF_of f (g := fun d => some (g d)) (fun d hd => ?_), M.bind_ret, M.calm_ret, List.filterMap_eq_map']
  obtain ⟨ρ', e1, e2⟩ := hg d hd
  simp [e1, evc, e2]
/-- a for, its laps counted, its items of any kind -/
theorem x_forN {α : Type} {tg : Tg} {k : It} {l : List α} (f : α → D) (I : Nat → Env → Prop) (h1 : evs Φ F r ρ = .ret ds) (h : dItems k ds = some (l.map f)) (h0 : I 0 ρ)
    (hs : ∀ (j : Nat) a σ, l[j]? = some a → I j σ → ∃ σ' σ'', bindTg tg (f a) σ = some σ' ∧ (exS Φ F s σ' = .ret (.nx σ'') ∨ exS Φ F s σ' = .ret (.ct σ'')) ∧ I (j + 1) σ'') : ∃ ρ', exS Φ F (.for tg k r s) ρ = .ret (.nx ρ') ∧ I l.length ρ' := by
  obtain ⟨ρ', e1, j, e2, e3, e4⟩ := x_forI (Φ := Φ) (F := F) (s := s) (tg := tg) (k := k) (I := fun l' ρ => ∃ j, l' = (l.drop j).map f ∧ j ≤ l.length ∧ I j ρ) h1 h ⟨0, by simp, by omega, h0⟩ (fun d l' σ ⟨j, e, hj, hi⟩ => by
    cases hd : l.drop j with
    | nil => rw [hd] at e; simp at e
    | cons a m =>
      rw [hd, List.map_cons] at e
      have ha : l[j]? = some a := by
        have := congrArg (·[0]?) hd
        simpa using this
      have hlt := (List.getElem?_eq_some_iff.mp ha).1
      obtain ⟨σ', σ'', q1, q2, q3⟩ := hs j a σ ha hi
      refine ⟨σ', σ'', by rw [(List.cons.inj e).1]; exact q1, q2, j + 1, ?_, hlt, q3⟩
      rw [(List.cons.inj e).2]
      congr 1
      have := congrArg List.tail hd
      simpa using this.symm)
  have : j = l.length := by
    have h3 := congrArg List.length e2
    simp at h3
    omega
  exact ⟨ρ', e1, this ▸ e4⟩
theorem p_nil : parL Φ F [] [] ρ = .ret ρ := rfl
theorem p_name {ts : List T} : parL Φ F (.name i :: ts) (d :: ds) ρ = parL Φ F ts ds (ρ.set i (.val d)) := rfl
theorem p_own {ts : List T} {l : List D} : parL Φ F (.own i :: ts) (.lst l :: ds) ρ = parL Φ F ts ds (ρ.set i (.own l)) := rfl
theorem p_ix {ts : List T} {l : List D} (h1 : ρ[i]? = some (.own l)) (h : ev Φ F e ρ = .ret (nd j)) (hj : j < l.length) : parL Φ F (.ix i e :: ts) (d :: ds) ρ = parL Φ F ts ds (ρ.set i (.own (l.set j d))) := by
  simp only [parL, ownAt, h1, h, M.bind_ret, nd, ixAt_nat hj, M.of_some]
/-- what only reads, behind what has been read -/
theorem x_ct (h : exS Φ F s ρ = .ret (.ct ρ')) : exS Φ F (.seq s u) ρ = .ret (.ct ρ') := by simp only [exS, h, M.bind_ret]
theorem x_cnt : exS Φ F .cnt ρ = .ret (.ct ρ) := by simp only [exS]
end
end VC
set_option Elab.async false
set_option linter.all false
set_option maxRecDepth 100000
set_option maxHeartbeats 1000000
/-! VCzh: the text that repr tells of bare values (numbers, True, False, None, tuples, lists): how long, of what signs. -/
namespace VC
open PySem
mutual
def D.bare : D → Bool
  | .non => true
  | .bl _ => true
  | .int i => decide (i.natAbs.log2 < 1920)
  | .tup l => bares l
  | .lst l => bares l
  | _ => false
def bares : List D → Bool
  | [] => true
  | d :: ds => d.bare && bares ds
end
mutual
/-- a bound of the text's length -/
def D.wt : D → Nat
  | .int _ => 1921
  | .tup l => wts l + 3
  | .lst l => wts l + 3
  | _ => 5
def wts : List D → Nat
  | [] => 0
  | d :: ds => d.wt + 2 + wts ds
end
theorem ok_app {a b : Str} (h1 : PyData.strOk a = true) (h2 : PyData.strOk b = true) : PyData.strOk (a ++ b) = true := by
  unfold PyData.strOk at *
  show (a.cps ++ b.cps).all _ = true
  rw [Array.all_append, h1, h2]
  rfl
theorem ok_str (s : String) : PyData.strOk (Str.ofString s) = true := by
  unfold PyData.strOk
  rw [Str.ofString_eq_toList]
  simp only [List.all_toArray', List.all_map, List.all_eq_true, Function.comp]
  intro c _
  have := c.valid
  refine decide_eq_true ?_
  have h : c.toNat < 0x110000 := by
    have h1 : c.val.toNat.isValidChar := c.valid
    unfold Nat.isValidChar at h1
    show c.val.toNat < _
    omega
  exact h
theorem ok_join {p : Str} (hp : PyData.strOk p = true) : ∀ ts : List Str, (∀ t ∈ ts, PyData.strOk t = true) → PyData.strOk (Str.join p ts) = true
  | [], _ => by rw [show Str.join p [] = Str.empty from rfl]; decide +kernel
  | [x], h => h x List.mem_cons_self
  | x :: y :: r, h => ok_app (ok_app (h x List.mem_cons_self) hp) (ok_join hp (y :: r) fun t ht => h t (List.mem_cons_of_mem _ ht))
theorem ok_from : ∀ (ts : List Str) (k : Nat) (acc : Str), PyData.strOk acc = true → (∀ t ∈ ts, PyData.strOk t = true) → PyData.strOk (textFrom k acc ts) = true
  | [], _, _, h, _ => h
  | t :: r, k, acc, h, hs => by
    unfold textFrom
    exact ok_from r _ _ (ok_app (ok_app h (ok_str _)) (hs t List.mem_cons_self)) fun x hx => hs x (List.mem_cons_of_mem _ hx)
theorem from_len : ∀ (ts : List Str) (k : Nat) (acc : Str), (textFrom k acc ts).length ≤ acc.length + piled ts
  | [], k, acc => by show acc.length ≤ acc.length + piled []; rw [piled_nil]; omega
  | t :: r, k, acc => by
    unfold textFrom
    have := from_len r (k + 1) (acc ++ (if k > 0 then ", " else "" : String) ++ t)
    have e : (acc ++ (if k > 0 then ", " else "" : String) ++ t).length = acc.length + (if k > 0 then 2 else 0) + t.length := by
      rw [strLen_append, strLen_append]
      split <;> rfl
    have e2 : (if k > 0 then 2 else 0) ≤ 2 := by split <;> omega
    rw [e] at this
    rw [piled_cons]
    omega
theorem list_len (ts : List Str) : (listText ts).length ≤ piled ts + 3 := by
  unfold listText
  rw [strLen_append]
  have := from_len ts 0 "["
  have e1 : (("[" : String) : Str).length = 1 := rfl
  have e2 : (("]" : String) : Str).length = 1 := rfl
  omega
theorem tuple_len (ts : List Str) : (tupleText ts).length ≤ piled ts + 3 := by
  unfold tupleText
  rw [strLen_append, strLen_append]
  have e1 : (("(" : String) : Str).length = 1 := rfl
  have e3 : (((if ts.length == 1 then ",)" else ")" : String) : Str)).length ≤ 2 := by split <;> decide
  by_cases h : ts = []
  · subst h
    have : (Str.join ", " []).length = 0 := rfl
    omega
  · have := join_length_add ts h
    omega
theorem ok_list {ts : List Str} (h : ∀ t ∈ ts, PyData.strOk t = true) : PyData.strOk (listText ts) = true := ok_app (ok_from ts 0 _ (ok_str _) h) (ok_str _)
theorem ok_tuple {ts : List Str} (h : ∀ t ∈ ts, PyData.strOk t = true) : PyData.strOk (tupleText ts) = true := ok_app (ok_app (ok_str _) (ok_join (ok_str _) ts h)) (ok_str _)
/-- what repr's rule asks -/
structure Tells (d : D) : Prop where
  plain : d.plain = true
  dict : d.py.hasDict = false
  can : d.py.showable = true
  ok : PyData.strOk d.py.shown = true
  len : d.py.shown.length ≤ d.wt
mutual
theorem tells : ∀ d : D, d.bare = true → Tells d
  | .non, _ => ⟨rfl, rfl, rfl, ok_str _, by decide +kernel⟩
  | .bl b, _ => by cases b <;> exact ⟨rfl, rfl, rfl, ok_str _, by decide +kernel⟩
  | .int i, h => by
    have h' : i.natAbs.log2 < 1920 := of_decide_eq_true h
    refine ⟨rfl, rfl, h, ok_str _, ?_⟩
    show (Str.ofString (toString i)).length ≤ 1921
    rw [PySem.ofString_length]
    exact int_text_length_le (by decide) h'
  | .tup l, h => by
    obtain ⟨h1, h2, h3, h4, h5⟩ := tellss l (by simpa [D.bare] using h)
    refine ⟨by simpa [D.plain] using h1, by simpa [D.py, PyData.hasDict] using h2, by simpa [D.py, PyData.showable] using h3, ?_, ?_⟩
    · simp only [D.py, PyData.shown]
      exact ok_tuple h4
    · simp only [D.py, PyData.shown, D.wt]
      exact Nat.le_trans (tuple_len _) (by omega)
  | .lst l, h => by
    obtain ⟨h1, h2, h3, h4, h5⟩ := tellss l (by simpa [D.bare] using h)
    refine ⟨by simpa [D.plain] using h1, by simpa [D.py, PyData.hasDict] using h2, by simpa [D.py, PyData.showable] using h3, ?_, ?_⟩
    · simp only [D.py, PyData.shown]
      exact ok_list h4
    · simp only [D.py, PyData.shown, D.wt]
      exact Nat.le_trans (list_len _) (by omega)
  | .str _, h => by simp [D.bare] at h
  | .dic _, h => by simp [D.bare] at h
  | .obj _ _, h => by simp [D.bare] at h
  | .pen, h => by simp [D.bare] at h
theorem tellss : ∀ l : List D, bares l = true → plains l = true ∧ PyData.hasDictAll (pys l) = false ∧ PyData.showableAll (pys l) = true ∧ (∀ t ∈ PyData.shownAll (pys l), PyData.strOk t = true) ∧ piled (PyData.shownAll (pys l)) ≤ wts l
  | [], _ => ⟨rfl, rfl, rfl, fun t h => (nomatch h), Nat.le_refl _⟩
  | d :: l, h => by
    obtain ⟨ha, hb⟩ : d.bare = true ∧ bares l = true := by simpa [bares] using h
    obtain ⟨h1, h2, h3, h4, h5⟩ := tellss l hb
    have t := tells d ha
    refine ⟨by simp [plains, t.plain, h1], by simp [pys, PyData.hasDictAll, t.dict, h2], by simp [pys, PyData.showableAll, t.can, h3], fun x hx => ?_, ?_⟩
    · simp only [pys, PyData.shownAll] at hx
      rcases List.mem_cons.mp hx with rfl | hx
      · exact t.ok
      · exact h4 x hx
    · simp only [pys, PyData.shownAll, piled_cons, wts]
      have := t.len
      omega
end
theorem bares_of {l : List D} (h : ∀ d ∈ l, d.bare = true) : bares l = true := by
  induction l with
  | nil => rfl
  | cons a l ih =>
    simp [bares, h a List.mem_cons_self, ih fun d hd => h d (List.mem_cons_of_mem _ hd)]
theorem wts_of {k : Nat} {l : List D} (h : ∀ d ∈ l, d.wt ≤ k) : wts l ≤ l.length * (k + 2) := by
  induction l with
  | nil => simp [wts]
  | cons a l ih =>
    have h1 := h a List.mem_cons_self
    have h2 := ih fun d hd => h d (List.mem_cons_of_mem _ hd)
    simp only [wts, List.length_cons, Nat.succ_mul]
    omega
theorem depths_of {k : Nat} {l : List D} (h : ∀ d ∈ l, d.py.depth ≤ k) : PyData.depthAll (pys l) ≤ k := by
  induction l with
  | nil => simp [pys, PyData.depthAll]
  | cons a l ih =>
    have h1 := h a List.mem_cons_self
    have h2 := ih fun d hd => h d (List.mem_cons_of_mem _ hd)
    simp only [pys, PyData.depthAll]
    omega
theorem depth_tup (l : List D) : (D.tup l).py.depth = PyData.depthAll (pys l) + 1 := by simp [D.py, PyData.depth]
theorem depth_lst (l : List D) : (D.lst l).py.depth = PyData.depthAll (pys l) + 1 := by simp [D.py, PyData.depth]
theorem depth_int (i : Int) : (D.int i).py.depth = 0 := by simp [D.py, PyData.depth]
theorem repr_of {d : D} (h : d.bare = true) (hd : d.py.depth ≤ 60) (hz : d.wt ≤ 10000000) : dbi .repr [d] = some (.str d.py.shown) := by
  have t := tells d h
  simp only [dbi, dRepr]
  rw [if_pos]
  have h5 : d.py.shown.length ≤ 10000000 := Nat.le_trans t.len hz
  simp [t.plain, t.dict, t.can, hd, h5]
theorem str_lays {s : Str} (h : PyData.strOk s = true) : lays (.str s) = true ∧ SeqAt.shaped (D.str s).py = true := by
  have e : (D.str s).py.canLay0 = true := by simpa [D.py, PyData.canLay0] using h
  refine ⟨?_, ?_⟩
  · unfold lays
    rw [e]
    rfl
  · unfold SeqAt.shaped
    rw [e]
    simp [D.py, PyData.depth]
theorem deq_strs {s t : Str} (h : PyData.strOk s = true) (h' : PyData.strOk t = true) : deq (.str s) (.str t) = some (s == t) := by
  unfold deq
  rw [(str_lays h).1, (str_lays h).2, (str_lays h').1, (str_lays h').2]
  simp [D.py, PyData.eqv]
end VC
set_option Elab.async false
set_option linter.all false
set_option maxRecDepth 100000
set_option maxHeartbeats 1000000
/-! VCzi: draws by plain numbers, comprehensions and for loops that draw, by items of any kind. -/
namespace VC
open PySem
theorem big_of {a : Nat} (h : a < 2 ^ 200) : a < BIG := by
  unfold BIG
  exact Nat.lt_trans h (Nat.pow_lt_pow_right (by decide) (by decide))
theorem mul_ints {a b : Int} (h1 : a.natAbs < 2 ^ 200) (h2 : b.natAbs < 2 ^ 200) : d2 .mul (.int a) (.int b) = some (.int (a * b)) := by
  simp only [d2, dMul]
  exact if_pos ⟨big_of h1, big_of h2⟩
theorem lift_list {α β : Type} {f : α → β} {P : α → Prop} : ∀ {xs : List β}, (∀ x ∈ xs, ∃ a, x = f a ∧ P a) → ∃ l : List α, xs = l.map f ∧ ∀ a ∈ l, P a
  | [], _ => ⟨[], rfl, fun a h => (nomatch h)⟩
  | x :: xs, h => by
    obtain ⟨a, e, p⟩ := h x List.mem_cons_self
    obtain ⟨l, e2, p2⟩ := lift_list (xs := xs) fun y hy => h y (List.mem_cons_of_mem _ hy)
    exact ⟨a :: l, by rw [e, e2]; rfl, fun b hb => by
      rcases List.mem_cons.mp hb with rfl | hb
      · exact p
      · exact p2 b hb⟩
section
variable {Φ : Fns} {F : Flds} {ρ ρ' : Env} {a b c e r : E} {s u : S} {d x y : D} {i j n k : Nat} {ds : List D}
theorem te_draw {f : Nat} (hf : Φ f = drawF) (hp : ρ[i]? = some (.val .pen)) (he : ev Φ F e ρ = .ret (nd k)) (h0 : 0 < k) (h1 : k < 2 ^ 200) : Tri 1 (ev Φ F (.call f (.cons (.var i) (.cons e .nil))) ρ) (fun d => ∃ j : Nat, j < k ∧ d = nd j) := by
  rw [v_call (vs_cons (v_var hp) (vs_cons he vs_nil)), hf]
  refine (tri_draw (many := (k : Int)) (by omega) (by omega)).mono (Nat.le_refl _) fun d ⟨i, e, h1, h2⟩ => ?_
  obtain ⟨j, rfl⟩ := Int.eq_ofNat_of_zero_le h1
  exact ⟨j, by omega, e⟩
/-- a comprehension that draws -/
theorem tri_compA {α : Type} {tg : Tg} {kk : It} {l : List α} (f : α → D) {R : α → D → Prop} (h1 : evs Φ F r ρ = .ret ds) (h : dItems kk ds = some (l.map f)) (hg : ∀ a ∈ l, ∃ ρ', bindTg tg (f a) (wipeD ρ tg.slots) = some ρ' ∧ Tri k (ev Φ F e ρ') (R a)) :
    Tri (k * l.length) (ev Φ F (.comp e tg kk r .nil) ρ) fun v => ∃ xs : List D, v = .lst xs ∧ xs.length = l.length ∧ ∀ x ∈ xs, ∃ a ∈ l, R a x := by
  have h2 := tri_comp (Φ := Φ) (F := F) (e := e) (tg := tg) (kk := kk) (k := k) (R := fun d x => ∃ a ∈ l, d = f a ∧ R a x) h1 h fun d hd => by
    obtain ⟨a, ha, rfl⟩ := List.mem_map.mp hd
    obtain ⟨ρ', e1, e2⟩ := hg a ha
    exact ⟨ρ', e1, e2.mono (Nat.le_refl _) fun x hx => ⟨a, ha, rfl, hx⟩⟩
  rw [List.length_map] at h2
  refine h2.mono (Nat.le_refl _) fun v ⟨xs, e1, e2, e3⟩ => ⟨xs, e1, by simpa using e2, fun x hx => ?_⟩
  obtain ⟨j, hj, rfl⟩ := List.mem_iff_getElem.mp hx
  have hj' : j < l.length := by simpa using e2 ▸ hj
  obtain ⟨a, ha, _, q⟩ := e3 j (f l[j]) xs[j] (by rw [List.getElem?_map, List.getElem?_eq_getElem hj']; rfl) (List.getElem?_eq_getElem hj)
  exact ⟨a, ha, q⟩
/-- a for that draws -/
theorem tx_forN {α : Type} {tg : Tg} {kk : It} {l : List α} (f : α → D) (I : Nat → Env → Prop) (N : Nat) (h1 : evs Φ F r ρ = .ret ds) (h : dItems kk ds = some (l.map f)) (hN : l.length ≤ N) (h0 : I 0 ρ)
    (hs : ∀ (j : Nat) a σ, l[j]? = some a → I j σ → ∃ σ', bindTg tg (f a) σ = some σ' ∧ Tri k (exS Φ F s σ') (fun fl => ∃ σ'', fl = .nx σ'' ∧ I (j + 1) σ'')) :
    Tri (k * N) (exS Φ F (.for tg kk r s) ρ) (fun fl => ∃ ρ', fl = .nx ρ' ∧ I l.length ρ') := by
  have := tx_for (Φ := Φ) (F := F) (ρ := ρ) (r := r) (s := s) (n := 0) (k := k) (tg := tg) (kk := kk) (P := fun x => x = ds) I N (Tri.eq h1 rfl) fun ds' hd => by
    subst hd
    refine ⟨_, h, by simpa using hN, h0, fun j d σ hj hi => ?_⟩
    rw [List.getElem?_map] at hj
    obtain ⟨a, ha, rfl⟩ := Option.map_eq_some_iff.mp hj
    obtain ⟨σ', e1, e2⟩ := hs j a σ ha hi
    exact ⟨σ', e1, e2.mono (Nat.le_refl _) fun fl ⟨σ'', e3, e4⟩ => ⟨σ'', .inl e3, e4⟩⟩
  refine this.mono (by omega) fun fl ⟨ρ', e1, ds', l', e2, e3, e4⟩ => ⟨ρ', e1, ?_⟩
  subst e2
  rw [h] at e3
  cases e3
  simpa using e4
theorem tx_appendPop {l m : List D} {P : D → Prop} (hij : i ≠ j) (h1 : ρ[i]? = some (.own l)) (h2 : ρ[j]? = some (.own m)) (hz : l.length < 1000000) (h : Tri n (ev Φ F e ρ) P) (q : ∀ d, P d → ∃ k : Nat, k < m.length ∧ d = nd k) :
    Tri n (exS Φ F (.appendPop i j e) ρ) (fun fl => ∃ ρ', fl = .nx ρ' ∧ ∃ (k : Nat) (d : D), m[k]? = some d ∧ ρ' = (ρ.set j (.own (m.eraseIdx k))).set i (.own (l ++ [d]))) := by
  simp only [exS, if_neg hij, ownAt, h1, h2, M.bind_ret]
  refine Tri.pure h fun d hd => ?_
  obtain ⟨k, hk, rfl⟩ := q d hd
  simp only [nd, ixAt_nat hk, M.of_some, M.bind_ret, List.getElem?_eq_getElem hk, if_pos hz]
  exact .ret ⟨_, rfl, k, _, List.getElem?_eq_getElem hk, rfl⟩
/-- a statement, and what stands behind it is a whole -/
theorem tx_seq1 {P : Env → Prop} (h1 : Tri n (exS Φ F s ρ) (fun fl => ∃ ρ', fl = .nx ρ' ∧ P ρ')) : Tri n (exS Φ F (.seq s .skip) ρ) (fun fl => ∃ ρ', fl = .nx ρ' ∧ P ρ') := by
  have := tx_seq (k := 0) (u := .skip) h1 fun ρ' hp => (Tri.eq (Q := fun fl => ∃ ρ', fl = .nx ρ' ∧ P ρ') x_skip ⟨ρ', rfl, hp⟩)
  exact this
theorem tx_then {P : Env → Prop} {R : Flow → Prop} {N : Nat} (h1 : Tri n (exS Φ F s ρ) (fun fl => ∃ ρ', fl = .nx ρ' ∧ P ρ')) (hN : n + k ≤ N) (h2 : ∀ ρ', P ρ' → Tri k (exS Φ F u ρ') R) : Tri N (exS Φ F (.seq s u) ρ) R :=
  (tx_seq h1 h2).mono hN fun _ z => z
end
end VC
set_option Elab.async false
set_option linter.all false
set_option maxRecDepth 100000
set_option maxHeartbeats 1000000
/-! VCzj: bare values are comparable; and, or with draws; picks; defs that raise. -/
namespace VC
open PySem
theorem int_bare {i : Int} (h : i.natAbs < 2 ^ 200) : (D.int i).bare = true := by
  refine decide_eq_true ?_
  by_cases h0 : i.natAbs = 0
  · rw [h0]; decide
  · have := (Nat.log2_lt h0).mpr h
    omega
mutual
theorem bare_lay : ∀ d : D, d.bare = true → d.py.canLay0 = true
  | .non, _ => rfl
  | .bl _, _ => rfl
  | .int _, _ => rfl
  | .tup l, h => by
    have := bares_lay l (by simpa [D.bare] using h)
    simpa [D.py, PyData.canLay0] using this
  | .lst l, h => by
    have := bares_lay l (by simpa [D.bare] using h)
    simpa [D.py, PyData.canLay0] using this
  | .str _, h => by simp [D.bare] at h
  | .dic _, h => by simp [D.bare] at h
  | .obj _ _, h => by simp [D.bare] at h
  | .pen, h => by simp [D.bare] at h
  | .lam _, h => by simp [D.bare] at h
theorem bares_lay : ∀ l : List D, bares l = true → PyData.canLayAll0 (pys l) = true
  | [], _ => rfl
  | d :: l, h => by
    obtain ⟨ha, hb⟩ : d.bare = true ∧ bares l = true := by simpa [bares] using h
    simp [pys, PyData.canLayAll0, bare_lay d ha, bares_lay l hb]
end
mutual
theorem bare_still : ∀ d : D, d.bare = true → d.still = true
  | .non, _ => rfl
  | .bl _, _ => rfl
  | .int _, _ => rfl
  | .tup l, h => by
    have := bares_still l (by simpa [D.bare] using h)
    simpa [D.still] using this
  | .lst l, h => by
    have := bares_still l (by simpa [D.bare] using h)
    simpa [D.still] using this
  | .str _, h => rfl
  | .dic _, h => by simp [D.bare] at h
  | .obj _ _, h => by simp [D.bare] at h
  | .pen, h => rfl
  | .lam _, h => by simp [D.bare] at h
theorem bares_still : ∀ l : List D, bares l = true → stills l = true
  | [], _ => rfl
  | d :: l, h => by
    obtain ⟨ha, hb⟩ : d.bare = true ∧ bares l = true := by simpa [bares] using h
    simp [stills, bare_still d ha, bares_still l hb]
end
mutual
theorem eqv_self : ∀ d : D, d.bare = true → PyData.eqv d.py d.py = true
  | .non, _ => rfl
  | .bl b, _ => by simp [D.py, PyData.eqv]
  | .int i, _ => by simp [D.py, PyData.eqv]
  | .tup l, h => by
    have := eqvs_self l (by simpa [D.bare] using h)
    simpa [D.py, PyData.eqv] using this
  | .lst l, h => by
    have := eqvs_self l (by simpa [D.bare] using h)
    simpa [D.py, PyData.eqv] using this
  | .str _, h => by simp [D.bare] at h
  | .dic _, h => by simp [D.bare] at h
  | .obj _ _, h => by simp [D.bare] at h
  | .pen, h => by simp [D.bare] at h
  | .lam _, h => by simp [D.bare] at h
theorem eqvs_self : ∀ l : List D, bares l = true → PyData.eqvAll (pys l) (pys l) = true
  | [], _ => rfl
  | d :: l, h => by
    obtain ⟨ha, hb⟩ : d.bare = true ∧ bares l = true := by simpa [bares] using h
    simp [pys, PyData.eqvAll, eqv_self d ha, eqvs_self l hb]
end
theorem lays_bare {d : D} (h : d.bare = true) : lays d = true := by
  unfold lays
  rw [(tells d h).plain, bare_lay d h]
  rfl
theorem shaped_bare {d : D} (h : d.bare = true) (hd : d.py.depth ≤ 64) : SeqAt.shaped d.py = true := by
  unfold SeqAt.shaped
  rw [bare_lay d h]
  simpa using hd
theorem deq_self {d : D} (h : d.bare = true) (hd : d.py.depth ≤ 60) : deq d d = some true := by
  unfold deq
  rw [lays_bare h, shaped_bare h (by omega), eqv_self d h]
  rfl
theorem deq_nil {l : List D} (h : bares l = true) (hd : PyData.depthAll (pys l) ≤ 60) : deq (.lst l) (.lst []) = some l.isEmpty := by
  have hb : (D.lst l).bare = true := by simpa [D.bare] using h
  unfold deq
  rw [lays_bare hb, lays_bare (d := .lst []) rfl, shaped_bare hb (by rw [depth_lst]; omega), shaped_bare (d := .lst []) rfl (by decide)]
  cases l with
  | nil => rfl
  | cons a l => simp [D.py, pys, PyData.eqv, PyData.eqvAll]
theorem zeros : ∀ b : Nat, (List.replicate b [D.int 0]).flatten = (List.replicate b (0 : Int)).map .int
  | 0 => rfl
  | b + 1 => by
    rw [List.replicate_succ, List.replicate_succ, List.flatten_cons, List.map_cons, zeros b]
    rfl
theorem isi_eq {ts : List Ty} {d : D} (h : ∀ k, d ≠ .lam k) : dbi (.isi ts) [d] = some (.bl (ts.any fun t => dtype t d)) := by
  cases d <;> first | rfl | exact absurd rfl (h _)
theorem still_lam {d : D} (h : d.still = true) : ∀ k, d ≠ .lam k := fun k e => by
  subst e
  cases h
section
variable {Φ : Fns} {F : Flds} {ρ ρ' : Env} {a b c e r : E} {s u : S} {d x y : D} {i j n k : Nat} {ds : List D} {er : Err}
theorem te_and {P R : D → Prop} (h1 : Tri n (ev Φ F a ρ) P) (h : ∀ x, P x → ∃ t, dtruth x = some t ∧ (t = true → Tri k (ev Φ F b ρ) R) ∧ (t = false → R x)) : Tri (n + k) (ev Φ F (.and a b) ρ) R := by
  simp only [ev]
  refine Tri.bind h1 fun x hx => ?_
  obtain ⟨t, e, q1, q2⟩ := h x hx
  rw [e, M.of_some, M.bind_ret]
  cases t with
  | true => exact q1 rfl
  | false => exact (Tri.ret (n := k) (q2 rfl))
theorem te_or {P R : D → Prop} (h1 : Tri n (ev Φ F a ρ) P) (h : ∀ x, P x → ∃ t, dtruth x = some t ∧ (t = true → R x) ∧ (t = false → Tri k (ev Φ F b ρ) R)) : Tri (n + k) (ev Φ F (.or a b) ρ) R := by
  simp only [ev]
  refine Tri.bind h1 fun x hx => ?_
  obtain ⟨t, e, q1, q2⟩ := h x hx
  rw [e, M.of_some, M.bind_ret]
  cases t with
  | true => exact (Tri.ret (n := k) (q1 rfl))
  | false => exact q2 rfl
/-! ### what raises -/
theorem vs_err1 (h : ev Φ F a ρ = .err er) : evs Φ F (.cons a r) ρ = .err er := by simp only [evs, h, M.bind_err]
theorem vs_err2 (h1 : ev Φ F a ρ = .ret x) (h : evs Φ F r ρ = .err er) : evs Φ F (.cons a r) ρ = .err er := by simp only [evs, h1, h, M.bind_ret, M.bind_err]
theorem x_parE {ts : List T} (h : evs Φ F r ρ = .err er) : exS Φ F (.par ts r) ρ = .err er := by simp only [exS, h, M.bind_err]
theorem x_setE (h : ev Φ F e ρ = .err er) : exS Φ F (.set i e) ρ = .err er := by simp only [exS, h, M.bind_err]
theorem x_retE (h : ev Φ F e ρ = .err er) : exS Φ F (.ret e) ρ = .err er := by simp only [exS, h, M.bind_err]
theorem x_seqE (h : exS Φ F s ρ = .err er) : exS Φ F (.seq s u) ρ = .err er := by simp only [exS, h, M.bind_err]
theorem f_err {np N : Nat} (hl : ds.length = np) (h : exS Φ F s (ds.map SD.val ++ List.replicate (N - ds.length) .no) = .err er) : defF np Φ F s N ds = .err er := by
  unfold defF runF
  rw [if_pos hl, h, M.bind_err]
theorem v_catch {tag : String} (h : ev Φ F e ρ = .err er) (ht : F (2000 + er.c) = [tag]) : ev Φ F (.catch e) ρ = .ret (.tup (.str (Str.ofString tag) :: er.l)) := by
  simp only [ev, h]
  funext st
  simp only [M.fault, M.err, ht, M.ret]
theorem v_catchV {bs : E} (h1 : ev Φ F a ρ = .ret (.lam k)) (hb : nthE bs k = some e) {tag : String} (h : ev Φ F e ρ = .err er) (ht : F (2000 + er.c) = [tag]) : ev Φ F (.catchV a bs) ρ = .ret (.tup (.str (Str.ofString tag) :: er.l)) := by
  simp only [ev, h1, M.bind_ret]
  rw [evn_at hb, h]
  funext st
  simp only [M.fault, M.err, ht, M.ret]
theorem v_lam : ev Φ F (.lam k) ρ = .ret (.lam k) := by simp only [ev]
theorem v_dic0 : ev Φ F .dic0 ρ = .ret (.dic []) := by simp only [ev]
theorem v_dic1 {kc : Kc} (h : ev Φ F a ρ = .ret d) : ev Φ F (.dic1 kc a) ρ = .ret (.dic [(kc.key, d)]) := by simp only [ev, h, M.bind_ret]
/-- a call out of a def in which lambdas are kept -/
theorem v_callW {f : Nat} {g : List D → M D} (hf : Φ f = fun l => if stills l then g l else M.bad) (h : evs Φ F r ρ = .ret ds) (hs : stills ds = true) : ev Φ F (.call f r) ρ = g ds := by
  rw [v_call h, hf]
  exact if_pos hs
/-- x[draw(pen, len(x))] -/
theorem tri_pick {f : Nat} {l : List D} (hf : Φ f = drawF) (h0 : l ≠ []) (hz : l.length < 1000000) (hp : ρ[0]? = some (.val .pen)) (hx : ρ[1]? = some (.val (.lst l)) ∨ ρ[1]? = some (.val (.tup l))) :
    Tri 1 (ev Φ F (.ix (.var 1) (.call f (.cons (.var 0) (.cons (.bi .len (.cons (.var 1) .nil)) .nil)))) ρ) (fun d => d ∈ l) := by
  have hp0 : 0 < l.length := List.length_pos_iff.mpr h0
  have key : ∀ (z : D), ρ[1]? = some (.val z) → dbi .len [z] = some (nd l.length) → (∀ j d, l[j]? = some d → dix z (nd j) = some d) → Tri 1 (ev Φ F (.ix (.var 1) (.call f (.cons (.var 0) (.cons (.bi .len (.cons (.var 1) .nil)) .nil)))) ρ) (fun d => d ∈ l) := fun z hz' hl hi => by
    refine (te_ix (n := 0) (k := 1) (P := fun x => x = z) (Tri.eq (v_var hz') rfl) (te_draw (k := l.length) hf hp (v_bi (vs_cons (v_var hz') vs_nil) hl) hp0 (by omega)) ?_).mono (by decide) fun _ h => h
    rintro x y rfl ⟨j, hj, rfl⟩
    exact ⟨l[j], hi j _ (List.getElem?_eq_getElem hj), List.getElem_mem hj⟩
  rcases hx with hx | hx
  · exact key _ hx rfl fun j d h => dix_lst h
  · exact key _ hx rfl fun j d h => dix_tup h
end
end VC
set_option Elab.async false
set_option linter.all false
set_option maxRecDepth 100000
set_option maxHeartbeats 0
/-! the law's text, as the evaluator reads it; its checks. Printed by emit.py. -/
namespace VC
namespace Law
open PySem PySem.Spec PyProof.Rows L2
def top (i : Nat) : Stmt := PySem.Challenge.pw_wholecorners_k32_webs_and_components.main.body.getD i (.Pass ⟨0, 0, 0, 0⟩)
def F : Flds
  | 0 => ["places", "ties"]
  | 1000 => ["table"]
  | 1001 => ["what", "number"]
  | 1002 => ["row"]
  | 1003 => ["what", "value"]
  | 1004 => ["what"]
  | 2000 => ["table"]
  | 2001 => ["number"]
  | 2002 => ["row"]
  | 2003 => ["wish"]
  | 2004 => ["unlike"]
  | _ => []
def en : Nat → String
  | 0 => "BadTable"
  | 1 => "BadNumber"
  | 2 => "BadRow"
  | 3 => "BadWish"
  | 4 => "Unlike"
  | _ => ""
def nm : Nat → String
  | 0 => "is_whole"
  | 1 => "is_row"
  | 2 => "need_between"
  | 3 => "labels_of"
  | 4 => "is_tie"
  | 5 => "need_web"
  | 6 => "components"
  | 7 => "_law_labels"
  | 8 => "_law_any_web"
  | 9 => "_law_odd"
  | 10 => "_law_same"
  | 11 => "_law_pen"
  | 12 => "_law_draw"
  | 13 => "_law_pick"
  | 14 => "_law_as_passed"
  | 15 => "_law_fault"
  | 16 => "_law_components"
  | 17 => "_law_near"
  | 18 => "_law_good"
  | 19 => "_law_bad"
  | 20 => "law"
  | _ => ""
def usN : List Nat := [0]
def cn : Nat → String
  | 0 => "Web"
  | _ => ""
def us : Nat → Bool := fun n => usN.contains n
def t0 : Tab := { Phi := fun _ _ => M.bad, has := fun _ => false, hasE := fun n => decide (n < 5), en := en, ef := fun n => (F (1000 + n)).length, nm := nm, cn := cn, gcd := false, hasC := false, cnm := "_law_fault", hasL := false, lams := .nil, lamB := fun _ _ _ _ _ => false }
def N_is_whole : List Str := ["value"]
/-- is_whole: 0:value -/
def s_is_whole : S := (.seq (.ret (.and (.bi (.isi [.int]) (.cons (.var 0) .nil)) (.no (.bi (.isi [.bool]) (.cons (.var 0) .nil)))))
  .skip)
def N_is_row : List Str := ["value"]
/-- is_row: 0:value -/
def s_is_row : S := (.seq (.ret (.bi (.isi [.tuple, .list]) (.cons (.var 0) .nil)))
  .skip)
def N_need_between : List Str := ["what", "number", "low", "high"]
/-- need_between: 0:what 1:number 2:low 3:high -/
def s_need_between : S := (.seq (.ite (.or (.no (.call 0 (.cons (.var 1) .nil))) (.or (.cmp .lt (.var 1) (.var 2)) (.cmp .gt (.var 1) (.var 3)))) (.seq (.raise 1 (.cons (.var 0) (.cons (.var 1) .nil)))
  .skip) .skip)
  .skip)
def N_labels_of : List Str := ["places", "ties", "labels", "one", "other", "low", "high", "label"]
/-- labels_of: 0:places 1:ties 2:labels 3:one 4:other 5:low 6:high 7:label -/
def s_labels_of : S := (.seq (.set 2 (.listIt .range (.cons (.var 0) .nil)))
  (.seq (.for (.tup [3, 4]) .seq (.cons (.var 1) .nil) (.seq (.par [.name 5, .name 6] (.cons (.bi .min (.cons (.ix (.var 2) (.var 3)) (.cons (.ix (.var 2) (.var 4)) .nil))) (.cons (.bi .max (.cons (.ix (.var 2) (.var 3)) (.cons (.ix (.var 2) (.var 4)) .nil))) .nil)))
  (.seq (.ite (.cmp .ne (.var 5) (.var 6)) (.seq (.set 2 (.comp (.ite (.cmp .eq (.var 7) (.var 6)) (.var 5) (.var 7)) (.name 7) .seq (.cons (.var 2) .nil) .nil))
  .skip) .skip)
  .skip)))
  (.seq (.ret (.var 2))
  .skip)))
def N_is_tie : List Str := ["value", "places", "end"]
/-- is_tie: 0:value 1:places 2:end -/
def s_is_tie : S := (.seq (.ite (.or (.no (.call 1 (.cons (.var 0) .nil))) (.cmp .ne (.bi .len (.cons (.var 0) .nil)) (.int 2))) (.seq (.ret (.bl false))
  .skip) .skip)
  (.seq (.ret (.bi .all (.cons (.comp (.and (.call 0 (.cons (.var 2) .nil)) (.chain .le .lt (.int 0) (.var 2) (.var 1))) (.name 2) .seq (.cons (.var 0) .nil) .nil) .nil)))
  .skip))
def N_need_web : List Str := ["web"]
/-- need_web: 0:web -/
def s_need_web : S := (.seq (.ite (.no (.bi (.isi [(.own 0)]) (.cons (.var 0) .nil))) (.seq (.raise 4 (.cons (.str "web") .nil))
  .skip) .skip)
  .skip)
def N_components : List Str := ["web", "labels", "told", "root", "place"]
/-- components: 0:web 1:labels 2:told 3:root 4:place -/
def s_components : S := (.seq (.expr (.call 5 (.cons (.var 0) .nil)))
  (.seq (.par [.name 1, .own 2] (.cons (.call 3 (.cons (.fld (.var 0) "places") (.cons (.fld (.var 0) "ties") .nil))) (.cons (.lst .nil) .nil)))
  (.seq (.for (.name 3) .range (.cons (.fld (.var 0) "places") .nil) (.seq (.ite (.cmp .eq (.ix (.var 1) (.var 3)) (.var 3)) (.seq (.append 2 (.bi .tuple (.cons (.comp (.var 4) (.name 4) .range (.cons (.fld (.var 0) "places") .nil) (.cons (.cmp .eq (.ix (.var 1) (.var 4)) (.var 3)) .nil)) .nil)))
  .skip) .skip)
  .skip))
  (.seq (.ret (.bi .tuple (.cons (.bor 2) .nil)))
  .skip))))
def N__law_labels : List Str := ["places", "ties", "labels", "lap", "one", "other", "low"]
/-- _law_labels: 0:places 1:ties 2:labels 3:lap 4:one 5:other 6:low -/
def s__law_labels : S := (.seq (.own 2 (.listIt .range (.cons (.var 0) .nil)))
  (.seq (.for (.name 3) .range (.cons (.var 0) .nil) (.seq (.for (.tup [4, 5]) .seq (.cons (.var 1) .nil) (.seq (.set 6 (.bi .min (.cons (.ix (.bor 2) (.var 4)) (.cons (.ix (.bor 2) (.var 5)) .nil))))
  (.seq (.par [.ix 2 (.var 4), .ix 2 (.var 5)] (.cons (.var 6) (.cons (.var 6) .nil)))
  .skip)))
  .skip))
  (.seq (.freeze 2)
  (.seq (.ret (.var 2))
  .skip))))
def N__law_any_web : List Str := ["pen", "most", "many", "places", "near", "ties", "k", "kind", "one", "other"]
/-- _law_any_web: 0:pen 1:most 2:many 3:places 4:near 5:ties 6:k 7:kind 8:one 9:other -/
def s__law_any_web : S := (.seq (.set 3 (.bin .add (.int 1) (.call 12 (.cons (.var 0) (.cons (.var 1) .nil)))))
  (.seq (.set 4 (.bin .add (.int 1) (.call 12 (.cons (.var 0) (.cons (.var 3) .nil)))))
  (.seq (.own 5 (.lst .nil))
  (.seq (.for (.name 6) .range (.cons (.call 12 (.cons (.var 0) (.cons (.bin .add (.var 2) (.int 1)) .nil))) .nil) (.seq (.set 7 (.call 12 (.cons (.var 0) (.cons (.int 8) .nil))))
  (.seq (.par [.name 8, .name 9] (.cons (.call 12 (.cons (.var 0) (.cons (.var 3) .nil))) (.cons (.call 12 (.cons (.var 0) (.cons (.var 3) .nil))) .nil)))
  (.seq (.ite (.cmp .eq (.var 7) (.int 0)) (.seq (.set 9 (.var 8))
  .skip) (.seq (.ite (.cmp .lt (.var 7) (.int 4)) (.seq (.set 9 (.bin .mod (.bi .int (.cons (.bin .add (.bin .add (.var 8) (.int 1)) (.call 12 (.cons (.var 0) (.cons (.var 4) .nil)))) .nil)) (.var 3)))
  .skip) (.seq (.ite (.and (.cmp .eq (.var 7) (.int 4)) (.cmp .ne (.bor 5) (.lst .nil))) (.seq (.unpack [8, 9] (.callB 13 (.cons (.var 0) (.cons (.bor 5) .nil))))
  .skip) .skip)
  .skip))
  .skip))
  (.seq (.append 5 (.tup (.cons (.var 8) (.cons (.var 9) .nil))))
  .skip)))))
  (.seq (.ret (.tup (.cons (.var 3) (.cons (.bi .tuple (.cons (.bor 5) .nil)) .nil))))
  .skip)))))
def N__law_odd : List Str := ["pen", "some"]
/-- _law_odd: 0:pen 1:some -/
def s__law_odd : S := (.seq (.set 1 (.lst (.cons .non (.cons (.bl true) (.cons (.int 0) (.cons (.neg (.int 1)) (.cons (.str "") (.cons (.str "web") (.cons (.tup .nil) (.cons (.lst .nil) (.cons (.tup (.cons (.int 0) .nil)) (.cons (.tup (.cons (.tup .nil) .nil)) (.cons (.tup (.cons (.tup (.cons (.int 0) (.cons (.int 1) .nil))) .nil)) (.cons (.tup (.cons .non (.cons .non .nil))) (.cons (.lst (.cons (.lst (.cons (.int 1) .nil)) .nil)) (.cons .dic0 (.cons (.bin .pow (.int 10) (.int 30)) .nil)))))))))))))))))
  (.seq (.ret (.call 13 (.cons (.var 0) (.cons (.var 1) .nil))))
  .skip))
def N__law_same : List Str := ["fault", "due"]
/-- _law_same: 0:fault 1:due -/
def s__law_same : S := (.seq (.ret (.and (.bi (.isi [.tuple]) (.cons (.var 0) .nil)) (.cmp .eq (.bi .repr (.cons (.var 0) .nil)) (.bi .repr (.cons (.var 1) .nil)))))
  .skip)
def N__law_pick : List Str := ["pen", "some"]
/-- _law_pick: 0:pen 1:some -/
def s__law_pick : S := (.seq (.ret (.ix (.var 1) (.call 12 (.cons (.var 0) (.cons (.bi .len (.cons (.var 1) .nil)) .nil)))))
  .skip)
def N__law_as_passed : List Str := ["pen", "table", "way", "row"]
/-- _law_as_passed: 0:pen 1:table 2:way 3:row -/
def s__law_as_passed : S := (.seq (.set 2 (.call 12 (.cons (.var 0) (.cons (.int 3) .nil))))
  (.seq (.ite (.cmp .eq (.var 2) (.int 0)) (.seq (.ret (.var 1))
  .skip) .skip)
  (.seq (.ret (.ite (.cmp .eq (.var 2) (.int 1)) (.comp (.bi .list (.cons (.var 3) .nil)) (.name 3) .seq (.cons (.var 1) .nil) .nil) (.bi .tuple (.cons (.comp (.bi .list (.cons (.var 3) .nil)) (.name 3) .seq (.cons (.var 1) .nil) .nil) .nil))))
  .skip)))
def N__law_components : List Str := ["places", "ties", "labels", "found", "root", "place"]
/-- _law_components: 0:places 1:ties 2:labels 3:found 4:root 5:place -/
def s__law_components : S := (.seq (.set 2 (.call 7 (.cons (.var 0) (.cons (.var 1) .nil))))
  (.seq (.own 3 (.lst .nil))
  (.seq (.for (.name 4) .range (.cons (.var 0) .nil) (.seq (.ite (.cmp .eq (.ix (.var 2) (.var 4)) (.var 4)) (.seq (.append 3 (.bi .tuple (.cons (.comp (.var 5) (.name 5) .range (.cons (.var 0) .nil) (.cons (.cmp .eq (.ix (.var 2) (.var 5)) (.var 4)) .nil)) .nil)))
  .skip) .skip)
  .skip))
  (.seq (.ret (.bi .tuple (.cons (.bor 3) .nil)))
  .skip))))
def N__law_near : List Str := ["pen", "places", "ties", "way", "k", "one", "other", "new"]
/-- _law_near: 0:pen 1:places 2:ties 3:way 4:k 5:one 6:other 7:new -/
def s__law_near : S := (.seq (.set 3 (.call 12 (.cons (.var 0) (.cons (.int 4) .nil))))
  (.seq (.ite (.or (.cmp .eq (.var 3) (.int 0)) (.cmp .eq (.var 2) (.tup .nil))) (.seq (.ret (.ite (.cmp .lt (.var 1) (.int 40)) (.tup (.cons (.bin .add (.var 1) (.int 1)) (.cons (.var 2) .nil))) (.tup (.cons (.var 1) (.cons (.ite (.cmp .lt (.bi .len (.cons (.var 2) .nil)) (.int 60)) (.bin .add (.var 2) (.tup (.cons (.tup (.cons (.int 0) (.cons (.int 0) .nil))) .nil))) (.sl (.var 2) (.cons (.int 1) .nil) .nil)) .nil)))))
  .skip) .skip)
  (.seq (.ite (.cmp .eq (.var 3) (.int 1)) (.seq (.ret (.tup (.cons (.var 1) (.cons (.sl (.var 2) .nil (.cons (.bin .sub (.bi .len (.cons (.var 2) .nil)) (.int 1)) .nil)) .nil))))
  .skip) .skip)
  (.seq (.set 4 (.call 12 (.cons (.var 0) (.cons (.bi .len (.cons (.var 2) .nil)) .nil))))
  (.seq (.unpack [5, 6] (.ix (.var 2) (.var 4)))
  (.seq (.ite (.and (.cmp .eq (.var 3) (.int 2)) (.cmp .ne (.var 5) (.var 6))) (.seq (.ret (.tup (.cons (.var 1) (.cons (.bin .add (.bin .add (.sl (.var 2) .nil (.cons (.var 4) .nil)) (.tup (.cons (.tup (.cons (.var 6) (.cons (.var 5) .nil))) .nil))) (.sl (.var 2) (.cons (.bin .add (.var 4) (.int 1)) .nil) .nil)) .nil))))
  .skip) .skip)
  (.seq (.set 7 (.ite (.cmp .gt (.var 1) (.int 1)) (.tup (.cons (.var 5) (.cons (.bin .mod (.bi .int (.cons (.bin .add (.var 6) (.int 1)) .nil)) (.var 1)) .nil))) .non))
  (.seq (.ret (.ite (.cmp .is (.var 7) .non) (.tup (.cons (.var 1) (.cons (.bin .add (.sl (.var 2) .nil (.cons (.var 4) .nil)) (.sl (.var 2) (.cons (.bin .add (.var 4) (.int 1)) .nil) .nil)) .nil))) (.tup (.cons (.var 1) (.cons (.bin .add (.bin .add (.sl (.var 2) .nil (.cons (.var 4) .nil)) (.tup (.cons (.var 7) .nil))) (.sl (.var 2) (.cons (.bin .add (.var 4) (.int 1)) .nil) .nil)) .nil)))))
  .skip))))))))
def N__law_good : List Str := ["pen", "most", "many", "places", "ties", "passed", "web", "same", "near", "unlike", "tie"]
/-- _law_good: 0:pen 1:most 2:many 3:places 4:ties 5:passed 6:web 7:same 8:near 9:unlike 10:tie -/
def s__law_good : S := (.seq (.unpack [3, 4] (.call 8 (.cons (.var 0) (.cons (.var 1) (.cons (.var 2) .nil)))))
  (.seq (.ownCall 5 14 (.cons (.var 0) (.cons (.var 4) .nil)))
  (.seq (.set 6 (.mkI 0 (.cons (.var 3) (.cons (.bor 5) .nil))))
  (.seq (.ite (.bi (.isi [.list]) (.cons (.bor 5) .nil)) (.seq (.append 5 (.tup (.cons (.int 0) (.cons (.int 0) .nil))))
  .skip) .skip)
  (.seq (.ite (.cmp .ne (.bi .repr (.cons (.tup (.cons (.fld (.var 6) "places") (.cons (.fld (.var 6) "ties") .nil))) .nil)) (.bi .repr (.cons (.tup (.cons (.var 3) (.cons (.var 4) .nil))) .nil))) (.seq (.ret (.bl false))
  .skip) .skip)
  (.seq (.ite (.or (.cmp .ne (.bi .repr (.cons (.call 6 (.cons (.var 6) .nil)) .nil)) (.bi .repr (.cons (.call 16 (.cons (.var 3) (.cons (.var 4) .nil))) .nil))) (.cmp .ne (.call 6 (.cons (.var 6) .nil)) (.call 6 (.cons (.var 6) .nil)))) (.seq (.ret (.bl false))
  .skip) .skip)
  (.seq (.par [.name 7, .name 8] (.cons (.mkI 0 (.cons (.var 3) (.cons (.comp (.bi .list (.cons (.var 10) .nil)) (.name 10) .seq (.cons (.var 4) .nil) .nil) .nil))) (.cons (.call 17 (.cons (.var 0) (.cons (.var 3) (.cons (.var 4) .nil)))) .nil)))
  (.seq (.set 9 (.mkI 0 (.cons (.ix (.var 8) (.int 0)) (.cons (.ix (.var 8) (.int 1)) .nil))))
  (.seq (.ite (.or (.no (.eqO false 0 (.var 6) (.var 7))) (.or (.eqO true 0 (.var 6) (.var 7)) (.or (.eqO false 0 (.var 6) (.var 9)) (.or (.eqO false 0 (.var 9) (.var 6)) (.no (.eqO true 0 (.var 6) (.var 9))))))) (.seq (.ret (.bl false))
  .skip) .skip)
  (.seq (.ret (.and (.no (.eqO false 0 (.var 6) (.tup (.cons (.var 3) (.cons (.var 4) .nil))))) (.and (.no (.eqO false 0 (.var 6) .non)) (.no (.eqO false 0 (.var 6) (.str "web"))))))
  .skip))))))))))
def N__law_bad : List Str := ["pen", "places", "ties", "number", "odd", "value"]
/-- _law_bad: 0:pen 1:places 2:ties 3:number 4:odd 5:value -/
def s__law_bad : S := (.seq (.unpack [1, 2] (.call 8 (.cons (.var 0) (.cons (.int 9) (.cons (.int 9) .nil)))))
  (.seq (.set 3 (.call 13 (.cons (.var 0) (.cons (.lst (.cons (.int 0) (.cons (.int 41) (.cons (.neg (.int 1)) (.cons (.neg (.int 40)) (.cons (.bl true) (.cons .non (.cons (.str "3") (.cons (.tup (.cons (.int 3) .nil)) (.cons (.bin .pow (.int 10) (.int 12)) .nil)))))))))) .nil))))
  (.seq (.set 4 (.call 13 (.cons (.var 0) (.cons (.lst (.cons .non (.cons (.int 5) (.cons (.str "ab") (.cons .dic0 (.cons (.tup (.cons (.tup (.cons (.int 0) (.cons (.int 0) (.cons (.int 0) .nil)))) .nil)) (.cons (.tup (.cons (.tup (.cons (.int 0) .nil)) .nil)) (.cons (.tup (.cons (.int 5) .nil)) (.cons (.tup (.cons (.tup (.cons (.int 0) (.cons (.var 1) .nil))) .nil)) (.cons (.tup (.cons (.tup (.cons (.neg (.int 1)) (.cons (.int 0) .nil))) .nil)) (.cons (.tup (.cons (.tup (.cons (.int 0) (.cons (.bl true) .nil))) .nil)) (.cons (.tup (.cons (.tup (.cons .non (.cons (.int 0) .nil))) .nil)) (.cons (.tup (.cons (.str "00") .nil)) (.cons (.bin .mul (.tup (.cons (.tup (.cons (.int 0) (.cons (.int 0) .nil))) .nil)) (.int 61)) (.cons (.bin .mul (.lst (.cons (.lst (.cons (.int 0) (.cons (.int 0) .nil))) .nil)) (.int 61)) (.cons (.tup (.cons (.tup (.cons (.int 0) (.cons (.int 0) .nil))) (.cons (.lst (.cons (.int 0) .nil)) .nil))) .nil)))))))))))))))) .nil))))
  (.seq (.ite (.no (.call 10 (.cons (.catch (.mkI 0 (.cons (.var 3) (.cons (.var 4) .nil)))) (.cons (.tup (.cons (.str "number") (.cons (.str "places") (.cons (.var 3) .nil)))) .nil)))) (.seq (.ret (.bl false))
  .skip) .skip)
  (.seq (.ite (.no (.call 10 (.cons (.catch (.mkI 0 (.cons (.var 3) (.cons (.var 2) .nil)))) (.cons (.tup (.cons (.str "number") (.cons (.str "places") (.cons (.var 3) .nil)))) .nil)))) (.seq (.ret (.bl false))
  .skip) .skip)
  (.seq (.ite (.no (.call 10 (.cons (.catch (.mkI 0 (.cons (.var 1) (.cons (.var 4) .nil)))) (.cons (.tup (.cons (.str "row") (.cons (.var 4) .nil))) .nil)))) (.seq (.ret (.bl false))
  .skip) .skip)
  (.seq (.set 5 (.call 9 (.cons (.var 0) .nil)))
  (.seq (.ret (.call 10 (.cons (.catch (.call 6 (.cons (.var 5) .nil))) (.cons (.tup (.cons (.str "unlike") (.cons (.str "web") .nil))) .nil))))
  .skip))))))))
def N_law : List Str := ["script", "pen", "edge", "lap"]
/-- law: 0:script 1:pen 2:edge 3:lap -/
def s_law : S := (.seq (.set 2 (.mkI 0 (.cons (.int 40) (.cons (.bin .mul (.tup (.cons (.tup (.cons (.int 39) (.cons (.int 0) .nil))) .nil)) (.int 60)) .nil))))
  (.seq (.ite (.or (.cmp .ne (.bi .len (.cons (.fld (.var 2) "ties") .nil)) (.int 60)) (.cmp .ne (.bi .len (.cons (.call 6 (.cons (.var 2) .nil)) .nil)) (.int 39))) (.seq (.ret (.bl false))
  .skip) .skip)
  (.seq (.for (.name 3) .range (.cons (.int 2) .nil) (.seq (.ite (.no (.call 18 (.cons (.var 1) (.cons (.int 9) (.cons (.int 12) .nil))))) (.seq (.ret (.bl false))
  .skip) .skip)
  .skip))
  (.seq (.ret (.and (.call 18 (.cons (.var 1) (.cons (.int 40) (.cons (.int 60) .nil)))) (.call 19 (.cons (.var 1) .nil))))
  .skip))))
def N_Web_init : List Str := ["self", "places", "ties", "tie"]
/-- Web.init: 0:self 1:places 2:ties 3:tie -/
def s_Web_init : S := (.seq (.expr (.call 2 (.cons (.str "places") (.cons (.var 1) (.cons (.int 1) (.cons (.int 40) .nil))))))
  (.seq (.ite (.or (.no (.call 1 (.cons (.var 2) .nil))) (.or (.cmp .gt (.bi .len (.cons (.var 2) .nil)) (.int 60)) (.no (.bi .all (.cons (.comp (.call 4 (.cons (.var 3) (.cons (.var 1) .nil))) (.name 3) .seq (.cons (.var 2) .nil) .nil) .nil))))) (.seq (.raise 2 (.cons (.var 2) .nil))
  .skip) .skip)
  (.seq (.setF 0 "places" (.var 1))
  (.seq (.setF 0 "ties" (.bi .tuple (.cons (.comp (.bi .tuple (.cons (.var 3) .nil)) (.name 3) .seq (.cons (.var 2) .nil) .nil) .nil)))
  .skip))))
def N_Web_eq : List Str := ["self", "other"]
/-- Web.eq: 0:self 1:other -/
def s_Web_eq : S := (.seq (.ite (.no (.bi (.isi [(.own 0)]) (.cons (.var 1) .nil))) (.seq (.ret (.bl false))
  .skip) .skip)
  (.seq (.ret (.and (.cmp .eq (.fld (.var 0) "places") (.fld (.var 1) "places")) (.cmp .eq (.fld (.var 0) "ties") (.fld (.var 1) "ties"))))
  .skip))
def f_is_whole : List D → M D := defF 1 t0.Phi F s_is_whole 1
def t_is_whole : Tab := t0.add 0 f_is_whole
def f_is_row : List D → M D := defF 1 t_is_whole.Phi F s_is_row 1
def t_is_row : Tab := t_is_whole.add 1 f_is_row
def f_need_between : List D → M D := defF 4 t_is_row.Phi F s_need_between 4
def t_need_between : Tab := t_is_row.add 2 f_need_between
def f_labels_of : List D → M D := defF 2 t_need_between.Phi F s_labels_of 8
def t_labels_of : Tab := t_need_between.add 3 f_labels_of
def f_is_tie : List D → M D := defF 2 t_labels_of.Phi F s_is_tie 3
def t_is_tie : Tab := t_labels_of.add 4 f_is_tie
def f_Web_init : List D → M D := initF 0 3 t_is_tie.Phi F s_Web_init 4
def t_Web_init : Tab := t_is_tie.addI 0 f_Web_init
def f_Web_eq : List D → M D := defF 2 t_Web_init.Phi F s_Web_eq 2
def t_Web_eq : Tab := t_Web_init.addQ 0 f_Web_eq
def f_need_web : List D → M D := defF 1 t_Web_eq.Phi F s_need_web 1
def t_need_web : Tab := t_Web_eq.add 5 f_need_web
def f_components : List D → M D := defF 1 t_need_web.Phi F s_components 5
def t_components : Tab := t_need_web.add 6 f_components
def f__law_labels : List D → M D := defF 2 t_components.Phi F s__law_labels 7
def t__law_labels : Tab := t_components.add 7 f__law_labels
def t__law_draw : Tab := t__law_labels.add 12 drawF
def f__law_pick : List D → M D := defF 2 t__law_draw.Phi F s__law_pick 2
def t__law_pick : Tab := t__law_draw.add 13 f__law_pick
def f__law_any_web : List D → M D := defF 3 t__law_pick.Phi F s__law_any_web 10
def t__law_any_web : Tab := t__law_pick.add 8 f__law_any_web
def f__law_odd : List D → M D := defF 1 t__law_any_web.Phi F s__law_odd 2
def t__law_odd : Tab := t__law_any_web.add 9 f__law_odd
def f__law_same : List D → M D := defF 2 t__law_odd.Phi F s__law_same 2
def t__law_same : Tab := t__law_odd.add 10 f__law_same
def pe1 : VC.E := (.call 12 (.cons (.var 0) (.cons (.int 3) .nil)))
def pe2 : VC.E := (.cmp .eq (.var 2) (.int 0))
def pe4 : VC.E := (.cmp .eq (.var 2) (.int 1))
def pe5 : VC.E := (.comp (.bi .list (.cons (.var 3) .nil)) (.name 3) .seq (.cons (.var 1) .nil) .nil)
def pe6 : VC.E := (.cons (.comp (.bi .list (.cons (.var 3) .nil)) (.name 3) .seq (.cons (.var 1) .nil) .nil) .nil)
def f__law_as_passed : List D → M D := passF (defF 2 t__law_same.Phi F (passS pe1 pe2 pe4 pe5 pe6) 4)
def t__law_as_passed : Tab := t__law_same.addF 14 f__law_as_passed
def f__law_components : List D → M D := defF 2 t__law_as_passed.Phi F s__law_components 6
def t__law_components : Tab := t__law_as_passed.add 16 f__law_components
def f__law_near : List D → M D := defF 3 t__law_components.Phi F s__law_near 8
def t__law_near : Tab := t__law_components.add 17 f__law_near
def f__law_good : List D → M D := defF 3 t__law_near.Phi F s__law_good 11
def t__law_good : Tab := t__law_near.add 18 f__law_good
def tc__law_bad : Tab := { t__law_good with hasC := true }
def f__law_bad : List D → M D := defF 1 t__law_good.Phi F s__law_bad 6
def t__law_bad : Tab := { tc__law_bad.add 19 f__law_bad with hasC := false }
def tc_law : Tab := { t__law_bad with hasC := false }
def t_law : Tab := tc_law
theorem sc_is_whole : FnScope N_is_whole ["value"] (defScope (top 8)) := ⟨rfl, rfl, rfl, by decide +kernel, rfl, by decide +kernel, by decide +kernel⟩
theorem ck_is_whole : chkS t0 N_is_whole us s_is_whole (defScope (top 8)) (defBody (top 8)) = true := by decide +kernel
theorem sc_is_row : FnScope N_is_row ["value"] (defScope (top 10)) := ⟨rfl, rfl, rfl, by decide +kernel, rfl, by decide +kernel, by decide +kernel⟩
theorem ck_is_row : chkS t_is_whole N_is_row us s_is_row (defScope (top 10)) (defBody (top 10)) = true := by decide +kernel
theorem sc_need_between : FnScope N_need_between ["what", "number", "low", "high"] (defScope (top 11)) := ⟨rfl, rfl, rfl, by decide +kernel, rfl, by decide +kernel, by decide +kernel⟩
theorem ck_need_between : chkS t_is_row N_need_between us s_need_between (defScope (top 11)) (defBody (top 11)) = true := by decide +kernel
theorem sc_labels_of : FnScope N_labels_of ["places", "ties"] (defScope (top 13)) := ⟨rfl, rfl, rfl, by decide +kernel, rfl, by decide +kernel, by decide +kernel⟩
theorem ck_labels_of : chkS t_need_between N_labels_of us s_labels_of (defScope (top 13)) (defBody (top 13)) = true := by decide +kernel
theorem sc_is_tie : FnScope N_is_tie ["value", "places"] (defScope (top 15)) := ⟨rfl, rfl, rfl, by decide +kernel, rfl, by decide +kernel, by decide +kernel⟩
theorem ck_is_tie : chkS t_labels_of N_is_tie us s_is_tie (defScope (top 15)) (defBody (top 15)) = true := by decide +kernel
theorem sc_Web_init : FnScope N_Web_init ["self", "places", "ties"] (defScope (inClass (top 16) 0)) := ⟨rfl, rfl, rfl, by decide +kernel, rfl, by decide +kernel, by decide +kernel⟩
theorem ck_Web_init : chkS t_is_tie N_Web_init us s_Web_init (defScope (inClass (top 16) 0)) (defBody (inClass (top 16) 0)) = true := by decide +kernel
theorem sc_Web_eq : FnScope N_Web_eq ["self", "other"] (defScope (inClass (top 16) 1)) := ⟨rfl, rfl, rfl, by decide +kernel, rfl, by decide +kernel, by decide +kernel⟩
theorem ck_Web_eq : chkS t_Web_init N_Web_eq us s_Web_eq (defScope (inClass (top 16) 1)) (defBody (inClass (top 16) 1)) = true := by decide +kernel
theorem sc_need_web : FnScope N_need_web ["web"] (defScope (top 17)) := ⟨rfl, rfl, rfl, by decide +kernel, rfl, by decide +kernel, by decide +kernel⟩
theorem ck_need_web : chkS t_Web_eq N_need_web us s_need_web (defScope (top 17)) (defBody (top 17)) = true := by decide +kernel
theorem sc_components : FnScope N_components ["web"] (defScope (top 18)) := ⟨rfl, rfl, rfl, by decide +kernel, rfl, by decide +kernel, by decide +kernel⟩
theorem ck_components : chkS t_need_web N_components us s_components (defScope (top 18)) (defBody (top 18)) = true := by decide +kernel
theorem sc__law_labels : FnScope N__law_labels ["places", "ties"] (defScope (top 20)) := ⟨rfl, rfl, rfl, by decide +kernel, rfl, by decide +kernel, by decide +kernel⟩
theorem ck__law_labels : chkS t_components N__law_labels us s__law_labels (defScope (top 20)) (defBody (top 20)) = true := by decide +kernel
theorem sc__law_pick : FnScope N__law_pick ["pen", "some"] (defScope (top 26)) := ⟨rfl, rfl, rfl, by decide +kernel, rfl, by decide +kernel, by decide +kernel⟩
theorem ck__law_pick : chkS t__law_draw N__law_pick us s__law_pick (defScope (top 26)) (defBody (top 26)) = true := by decide +kernel
theorem sc__law_any_web : FnScope N__law_any_web ["pen", "most", "many"] (defScope (top 21)) := ⟨rfl, rfl, rfl, by decide +kernel, rfl, by decide +kernel, by decide +kernel⟩
theorem ck__law_any_web : chkS t__law_pick N__law_any_web us s__law_any_web (defScope (top 21)) (defBody (top 21)) = true := by decide +kernel
theorem sc__law_odd : FnScope N__law_odd ["pen"] (defScope (top 22)) := ⟨rfl, rfl, rfl, by decide +kernel, rfl, by decide +kernel, by decide +kernel⟩
theorem ck__law_odd : chkS t__law_any_web N__law_odd us s__law_odd (defScope (top 22)) (defBody (top 22)) = true := by decide +kernel
theorem sc__law_same : FnScope N__law_same ["fault", "due"] (defScope (top 23)) := ⟨rfl, rfl, rfl, by decide +kernel, rfl, by decide +kernel, by decide +kernel⟩
theorem ck__law_same : chkS t__law_odd N__law_same us s__law_same (defScope (top 23)) (defBody (top 23)) = true := by decide +kernel
theorem sc__law_as_passed : FnScope N__law_as_passed ["pen", "table"] (defScope (top 27)) := ⟨rfl, rfl, rfl, by decide +kernel, rfl, by decide +kernel, by decide +kernel⟩
theorem sc__law_components : FnScope N__law_components ["places", "ties"] (defScope (top 29)) := ⟨rfl, rfl, rfl, by decide +kernel, rfl, by decide +kernel, by decide +kernel⟩
theorem ck__law_components : chkS t__law_as_passed N__law_components us s__law_components (defScope (top 29)) (defBody (top 29)) = true := by decide +kernel
theorem sc__law_near : FnScope N__law_near ["pen", "places", "ties"] (defScope (top 30)) := ⟨rfl, rfl, rfl, by decide +kernel, rfl, by decide +kernel, by decide +kernel⟩
theorem ck__law_near : chkS t__law_components N__law_near us s__law_near (defScope (top 30)) (defBody (top 30)) = true := by decide +kernel
theorem sc__law_good : FnScope N__law_good ["pen", "most", "many"] (defScope (top 31)) := ⟨rfl, rfl, rfl, by decide +kernel, rfl, by decide +kernel, by decide +kernel⟩
theorem ck__law_good : chkS t__law_near N__law_good us s__law_good (defScope (top 31)) (defBody (top 31)) = true := by decide +kernel
theorem sc__law_bad : FnScope N__law_bad ["pen"] (defScope (top 32)) := ⟨rfl, rfl, rfl, by decide +kernel, rfl, by decide +kernel, by decide +kernel⟩
theorem ck__law_bad : chkS tc__law_bad N__law_bad us s__law_bad (defScope (top 32)) (defBody (top 32)) = true := by decide +kernel
theorem sc_law : FnScope N_law ["script"] (defScope (top 33)) := ⟨rfl, rfl, rfl, by decide +kernel, rfl, by decide +kernel, by decide +kernel⟩
theorem ck_law : chkS t_law N_law us s_law (defScope (top 33)) (defBody (top 33)).tail = true := by decide +kernel
end Law
end VC
set_option Elab.async false
set_option linter.all false
set_option maxRecDepth 100000
set_option maxHeartbeats 0
/-! the head's facts. Printed by facts.py. -/
namespace VC
namespace Law
open PySem PySem.Spec PyProof.Rows L2
def meth (i j : Nat) : Stmt := inClass (top i) j
def dd (x : Str) (i : Nat) : He.DefD := ⟨(x, none), x, x, defArgs (top i), defBody (top i), defScope (top i), [], []⟩
def di (C q : Str) (i : Nat) : He.DefD := ⟨(C, some "__init__"), "__init__", q, defArgs (meth i 0), defBody (meth i 0), defScope (meth i 0), [], []⟩
def dm (C m q : Str) (i j : Nat) : He.DefD := ⟨(C, some m), m, q, defArgs (meth i j), defBody (meth i j), defScope (meth i j), [], []⟩
def fn : List He.DefD := [dd "is_whole" 8, dd "is_row" 10, dd "need_between" 11, dd "labels_of" 13, dd "is_tie" 15, dd "need_web" 17, dd "components" 18, dd "_law_labels" 20, dd "_law_any_web" 21, dd "_law_odd" 22, dd "_law_same" 23, dd "_law_pen" 24, dd "_law_draw" 25, dd "_law_pick" 26, dd "_law_as_passed" 27, dd "_law_fault" 28, dd "_law_components" 29, dd "_law_near" 30, dd "_law_good" 31, dd "_law_bad" 32, dd "law" 33, di "BadTable" "BadTable.__init__" 2, di "BadNumber" "BadNumber.__init__" 3, di "BadRow" "BadRow.__init__" 4, di "BadWish" "BadWish.__init__" 5, di "Unlike" "Unlike.__init__" 6, dm "Web" "__init__" "Web.__init__" 16 0, dm "Web" "__eq__" "Web.__eq__" 16 1]
def fa : List He.Fa := [.glo "is_whole", .glo "is_row", .glo "need_between", .glo "labels_of", .glo "is_tie", .glo "need_web", .glo "components", .glo "_law_labels", .glo "_law_any_web", .glo "_law_odd", .glo "_law_same", .glo "_law_pen", .glo "_law_draw", .glo "_law_pick", .glo "_law_as_passed", .glo "_law_fault", .glo "_law_components", .glo "_law_near", .glo "_law_good", .glo "_law_bad", .glo "law", .glo "CornerError", .glo "BadTable", .glo "BadNumber", .glo "BadRow", .glo "BadWish", .glo "Unlike", .glo "Web"] ++ bltNames.map fun b => He.Fa.free (Str.ofString b)
def tf : List He.Defn := [("_law_bad", none)]
def clO (K : PySem.W.Frag) : Nat → Addr := fun n => He.ga K (Str.ofString (cn n))
def exN : List Str := ["BadTable", "BadNumber", "BadRow", "BadWish", "Unlike"]
def exmB (K : PySem.W.Frag) : Bool := exN.all fun x => exN.all fun y => decide (PySem.W.exmOne K (.ref (He.ga K x)) (.ref (He.ga K y)) = some (decide (x = y)))
def ex (K : PySem.W.Frag) : Bool := isxB K (clO K) usN && (nfB K (clO K) usN && (objCB K (He.ga K "Web") && (mkCB K (He.ga K "Web") && (noFB K (He.ga K "Web") ["places", "ties"] && (eqCB K (He.ga K "Web") && (excB K (He.ga K "BadTable") ["table"] && (excB K (He.ga K "BadNumber") ["what", "number"] && (excB K (He.ga K "BadRow") ["row"] && (excB K (He.ga K "BadWish") ["what", "value"] && (excB K (He.ga K "Unlike") ["what"] && (baseB K (He.ga K "CornerError") && (exmB K))))))))))))
abbrev R : PySem.W.OpenRow := PySem.W.OpenLaw.row PySem.Challenge.rw_wholecorners_k32_webs_and_components
abbrev hk : PySem.W.Hook := hookY 6 fa fn tf ex
def ob (s : PySem.W.SharedT) : He.AlX := obsY 6 fa fn tf ex (HandSHeadRun.getT s)
theorem ob_eq (s : PySem.W.SharedT) : ob s = hk.obs s.abs := obsY_eq (HandSHeadRun.getT_eq s)
theorem run (w : World) : HandSHeadRun.RunEq R (PySem.W.view R.prog [33]) hk ob 4000 ["is_whole", "is_row", "need_between", "labels_of", "is_tie", "need_web", "components", "_law_labels", "_law_any_web", "_law_odd", "_law_same", "_law_pen", "_law_draw", "_law_pick", "_law_as_passed", "_law_fault", "_law_components", "_law_near", "_law_good", "_law_bad", "CornerError", "BadTable", "BadNumber", "BadRow", "BadWish", "Unlike", "Web"] w := by
  intro os
  kernel_rfl
end Law
end VC
set_option Elab.async false
set_option linter.all false
set_option maxRecDepth 100000
set_option maxHeartbeats 0
/-! the promises of the law's defs. Printed by chain.py. -/
namespace VC
namespace Law
open PySem PySem.Spec PyProof.Rows L2
def cfg (K : PySem.W.Frag) : Cf := { c := { K := K, pa := 0, la := 0, cl := clO K, F := F, used := us, tabs := tf.map fun p => ((He.cT K p).2, p.1 ++ ".<locals>." ++ "<lambda>"), hot := false, lo := fun _ _ _ => False, lc := fun _ => .lst [] }, ec := fun n => He.ga K (Str.ofString (en n)) }
section
variable {P : Program} {w : World} {mg : Str → Option Value} {base h : Heap} {K : PySem.W.Frag} {fa' fI : Addr} {fd : FuncData} {pa : Addr × Addr}
def Ni_BadTable : List Str := ["self", "table"]
theorem sci_BadTable : FnScope Ni_BadTable Ni_BadTable (defScope (meth 2 0)) := ⟨rfl, rfl, rfl, by decide +kernel, rfl, by decide +kernel, by decide +kernel⟩
theorem ini_BadTable {C Cb : Addr} (F : FunD K "__init__" "BadTable.__init__" (defArgs (meth 2 0)) (defBody (meth 2 0)) (defScope (meth 2 0)) [] [] fI fd) (gb : mg "CornerError" = some (.ref Cb)) (bi : BaseI K Cb) (T : OexC K C) (hf : ∀ n ∈ (["table"] : List String), PySem.W.findIn K (.ref C) (Str.ofString n) = some none) : FnOk P w K mg base (L2.CX P w) 1 fI fd Ni_BadTable (spI C ["table"]) := by
  refine F.ok sci_BadTable (fun vs H Q E h => ?_) (fun cdv A outer s H vs Q E hr h => ⟨t_init K "A value that is no such table." ["table"], ?_, pure_init T hf (by decide) (by decide) h⟩)
  · obtain ⟨a, ws, rfl, hl, _⟩ := h
    simp only [List.length_cons, hl]
    rfl
  · exact pss_cons (ps_expr (pe_baseinit (by rfl) gb bi (by decide) (pa_cons (pv 0) (pa_cons pe_str pa_nil)))) (pss_cons (ps_ost (pv 0) (pv 1)) pss_nil)
def Ni_BadNumber : List Str := ["self", "what", "number"]
theorem sci_BadNumber : FnScope Ni_BadNumber Ni_BadNumber (defScope (meth 3 0)) := ⟨rfl, rfl, rfl, by decide +kernel, rfl, by decide +kernel, by decide +kernel⟩
theorem ini_BadNumber {C Cb : Addr} (F : FunD K "__init__" "BadNumber.__init__" (defArgs (meth 3 0)) (defBody (meth 3 0)) (defScope (meth 3 0)) [] [] fI fd) (gb : mg "CornerError" = some (.ref Cb)) (bi : BaseI K Cb) (T : OexC K C) (hf : ∀ n ∈ (["what", "number"] : List String), PySem.W.findIn K (.ref C) (Str.ofString n) = some none) : FnOk P w K mg base (L2.CX P w) 1 fI fd Ni_BadNumber (spI C ["what", "number"]) := by
  refine F.ok sci_BadNumber (fun vs H Q E h => ?_) (fun cdv A outer s H vs Q E hr h => ⟨t_init K "A number that is not allowed here." ["what", "number"], ?_, pure_init T hf (by decide) (by decide) h⟩)
  · obtain ⟨a, ws, rfl, hl, _⟩ := h
    simp only [List.length_cons, hl]
    rfl
  · exact pss_cons (ps_expr (pe_baseinit (by rfl) gb bi (by decide) (pa_cons (pv 0) (pa_cons pe_str pa_nil)))) (pss_cons (ps_ost (pv 0) (pv 1)) (pss_cons (ps_ost (pv 0) (pv 2)) pss_nil))
def Ni_BadRow : List Str := ["self", "row"]
theorem sci_BadRow : FnScope Ni_BadRow Ni_BadRow (defScope (meth 4 0)) := ⟨rfl, rfl, rfl, by decide +kernel, rfl, by decide +kernel, by decide +kernel⟩
theorem ini_BadRow {C Cb : Addr} (F : FunD K "__init__" "BadRow.__init__" (defArgs (meth 4 0)) (defBody (meth 4 0)) (defScope (meth 4 0)) [] [] fI fd) (gb : mg "CornerError" = some (.ref Cb)) (bi : BaseI K Cb) (T : OexC K C) (hf : ∀ n ∈ (["row"] : List String), PySem.W.findIn K (.ref C) (Str.ofString n) = some none) : FnOk P w K mg base (L2.CX P w) 1 fI fd Ni_BadRow (spI C ["row"]) := by
  refine F.ok sci_BadRow (fun vs H Q E h => ?_) (fun cdv A outer s H vs Q E hr h => ⟨t_init K "A value that is no such row." ["row"], ?_, pure_init T hf (by decide) (by decide) h⟩)
  · obtain ⟨a, ws, rfl, hl, _⟩ := h
    simp only [List.length_cons, hl]
    rfl
  · exact pss_cons (ps_expr (pe_baseinit (by rfl) gb bi (by decide) (pa_cons (pv 0) (pa_cons pe_str pa_nil)))) (pss_cons (ps_ost (pv 0) (pv 1)) pss_nil)
def Ni_BadWish : List Str := ["self", "what", "value"]
theorem sci_BadWish : FnScope Ni_BadWish Ni_BadWish (defScope (meth 5 0)) := ⟨rfl, rfl, rfl, by decide +kernel, rfl, by decide +kernel, by decide +kernel⟩
theorem ini_BadWish {C Cb : Addr} (F : FunD K "__init__" "BadWish.__init__" (defArgs (meth 5 0)) (defBody (meth 5 0)) (defScope (meth 5 0)) [] [] fI fd) (gb : mg "CornerError" = some (.ref Cb)) (bi : BaseI K Cb) (T : OexC K C) (hf : ∀ n ∈ (["what", "value"] : List String), PySem.W.findIn K (.ref C) (Str.ofString n) = some none) : FnOk P w K mg base (L2.CX P w) 1 fI fd Ni_BadWish (spI C ["what", "value"]) := by
  refine F.ok sci_BadWish (fun vs H Q E h => ?_) (fun cdv A outer s H vs Q E hr h => ⟨t_init K "A wish that is none." ["what", "value"], ?_, pure_init T hf (by decide) (by decide) h⟩)
  · obtain ⟨a, ws, rfl, hl, _⟩ := h
    simp only [List.length_cons, hl]
    rfl
  · exact pss_cons (ps_expr (pe_baseinit (by rfl) gb bi (by decide) (pa_cons (pv 0) (pa_cons pe_str pa_nil)))) (pss_cons (ps_ost (pv 0) (pv 1)) (pss_cons (ps_ost (pv 0) (pv 2)) pss_nil))
def Ni_Unlike : List Str := ["self", "what"]
theorem sci_Unlike : FnScope Ni_Unlike Ni_Unlike (defScope (meth 6 0)) := ⟨rfl, rfl, rfl, by decide +kernel, rfl, by decide +kernel, by decide +kernel⟩
theorem ini_Unlike {C Cb : Addr} (F : FunD K "__init__" "Unlike.__init__" (defArgs (meth 6 0)) (defBody (meth 6 0)) (defScope (meth 6 0)) [] [] fI fd) (gb : mg "CornerError" = some (.ref Cb)) (bi : BaseI K Cb) (T : OexC K C) (hf : ∀ n ∈ (["what"] : List String), PySem.W.findIn K (.ref C) (Str.ofString n) = some none) : FnOk P w K mg base (L2.CX P w) 1 fI fd Ni_Unlike (spI C ["what"]) := by
  refine F.ok sci_Unlike (fun vs H Q E h => ?_) (fun cdv A outer s H vs Q E hr h => ⟨t_init K "Things that do not fit together." ["what"], ?_, pure_init T hf (by decide) (by decide) h⟩)
  · obtain ⟨a, ws, rfl, hl, _⟩ := h
    simp only [List.length_cons, hl]
    rfl
  · exact pss_cons (ps_expr (pe_baseinit (by rfl) gb bi (by decide) (pa_cons (pv 0) (pa_cons pe_str pa_nil)))) (pss_cons (ps_ost (pv 0) (pv 1)) pss_nil)
theorem scP : FnScope ["script", "fold", "cell"] ["script"] (defScope (top 24)) := ⟨rfl, rfl, rfl, by decide +kernel, rfl, by decide +kernel, by decide +kernel⟩
theorem scD : FnScope ["pen", "many", "cell", "digit", "blend"] ["pen", "many"] (defScope (top 25)) := ⟨rfl, rfl, rfl, by decide +kernel, rfl, by decide +kernel, by decide +kernel⟩
theorem pen_ok (F : FunD K "_law_pen" "_law_pen" (defArgs (top 24)) (defBody (top 24)) (defScope (top 24)) [] [] fa' fd) (gI : mg "int" = none) (gL : mg "list" = none) : FnOk P w K mg base (L2.CX P w) 1 fa' fd ["script"] (spPen K) := by
  refine F.ok scP (fun vs H Q E h => ?_) (fun cdv A outer s H vs Q E hr h => ⟨t_pen K, ?_, ?_⟩)
  · obtain ⟨a, ns, rfl, _⟩ := h
    rfl
  · exact pss_cons (ps_set (i := 1) scP.nd rfl (Or.inl rfl) pe_int)
      (pss_cons (ps_for (passes_of rfl) rfl (pi_list (pv 0)) (pg_name scP.nd rfl (Or.inl rfl) (Or.inl rfl))
        (pss_one (ps_set (i := 1) scP.nd rfl (Or.inl rfl) (pe_op op_modN (pe_callTy call_int1 (by rfl) gI boot_int (pa_cons (pe_op op_add (pe_op op_mul (pv 1) pe_int) (pv 2)) pa_nil)) pe_int))))
      (pss_one (ps_ret (pe_disp (pps_cons pe_str (pe_callTy call_list_of (by rfl) gL boot_list (pa_cons (pv 0) pa_nil)) (pps_cons pe_str pe_int (pps_cons pe_str pe_int (pps_cons pe_str pe_int (pps_cons pe_str (pv 1) pps_nil))))) (by rfl) (by rfl) (by intro z; cases z) (by decide)))))
  · obtain ⟨a, ns, rfl, hS, q⟩ := h
    exact pure_pen hS q

end
section
variable {P : Program} {w : World} {mg : Str → Option Value} {base : Heap} {f : Cf} {fa : Addr} {fd : FuncData} {kws : List (Str × V)} {x q : Str}
theorem nsl {c : Const} {j : Nat} {p : Pos} : NoSl (.Constant c j p) := fun _ _ => rfl
theorem draw_ok (F : FunD f.c.K x q (defArgs (top 25)) (defBody (top 25)) (defScope (top 25)) [] kws fa fd) (gL : mg "len" = none) (gI : mg "int" = none) : FnG P w f.c.K mg base 4 fa fd ["pen", "many"] (spF f 2 drawF) := by
  obtain ⟨oc, od, dV, kV, doc, pm, an, cdv, ct, osl, rfl, lk, hcd, _, _⟩ := F.ex
  refine ⟨fun vs H Q E h => ?_, fun A outer sh H args us vs Q E hg hr e0 hb rv hsp => ?_⟩
  · obtain ⟨_, _, _, _, _, _, h, _⟩ := h
    exact h
  obtain ⟨H0, ds, st, sm, pen, rr, hl, qq⟩ := hsp
  refine fnG.run_ofS' (k := 2) lk hcd scD hr e0 hb rv hl fun hr' => ?_
  have hu := hu_of hr'
  refine ⟨t_draw f.c.K, pss_cons (ps_dput hu (pv 0) pe_str (pe_op op_add (pe_dget hu (pv 0) pe_str nsl) pe_int) rfl)
    (pss_cons (ps_if (pw_and (pt_cmp (pc_eqI (pe_dget hu (pv 0) pe_str nsl) pe_int)) (pw_and1 (pt_cmp (pc_lt (pe_dget hu (pv 0) pe_str nsl) (pe_callB call_len (by rfl) gL boot_len (pa_cons (pe_dget hu (pv 0) pe_str nsl) pa_nil)))))).pt
      (pss_cons (ps_set (i := 2) scD.nd rfl (Or.inl rfl) (pe_ix ix_list (pe_dget hu (pv 0) pe_str nsl) (pe_dget hu (pv 0) pe_str nsl) (ix_plain rfl)))
      (pss_cons (ps_dput hu (pv 0) pe_str (pe_op op_add (pe_dget hu (pv 0) pe_str nsl) pe_int) rfl)
      (pss_one (ps_if (pt_cmp (pc_ge (pv 2) (pe_op op_pow pe_int pe_int)))
        (pss_one (ps_dput hu (pv 0) pe_str (pe_op op_sub (pv 2) (pe_op op_pow pe_int pe_int)) rfl))
        (pss_one (ps_dput hu (pv 0) pe_str (pe_op op_modN (pe_callTy call_int1 (by rfl) gI boot_int (pa_cons (pe_op op_add (pe_op op_mul (pe_dget hu (pv 0) pe_str nsl) pe_int) (pv 2)) pa_nil)) pe_int) rfl)))))) pss_nil)
    (pss_cons (ps_if (pt_cmp (pc_gt (pe_dget hu (pv 0) pe_str nsl) pe_int))
      (pss_cons (ps_set (i := 3) scD.nd rfl (Or.inl rfl) (pe_op op_modN (pe_callTy call_int1 (by rfl) gI boot_int (pa_cons (pe_dget hu (pv 0) pe_str nsl) pa_nil)) (pv 1)))
      (pss_cons (ps_dput hu (pv 0) pe_str (pe_op (op_fdivD) (pe_dget hu (pv 0) pe_str nsl) (pv 1)) rfl)
      (pss_one (ps_ret (pv 3))))) pss_nil)
    (pss_cons (ps_set (i := 4) scD.nd rfl (Or.inl rfl) (pe_op op_add (pe_op op_add (pe_dget hu (pv 0) pe_str nsl) (pe_op op_mul (pe_dget hu (pv 0) pe_str nsl) pe_int)) pe_int))
    (pss_one (ps_ret (pe_op op_modN (pe_op op_fdivN (pe_callTy call_int1 (by rfl) gI boot_int (pa_cons (pe_op op_modN (pe_op op_pow (pv 4) pe_int) pe_int) pa_nil)) pe_int) (pv 1))))))), ?_⟩
  exact draw_fin (K := f.c.K) sm pen rr qq
end
section
variable {P : Program} {w : World} {mg : Str → Option Value} {base h : Heap} {K : PySem.W.Frag} {pa : Addr × Addr}
theorem blt_ok (c : He.SaysX fa fn [] tf ex w h K) (hK : K.In base) (hn : base.Ns mainGlobals mg) : ∀ b ∈ bltNames, mg (Str.ofString b) = none := fun b hb => He.free_ok hK hn (c.t.d.facts (f := .free (Str.ofString b)) (by unfold fa; exact List.mem_append_right _ (List.mem_map.mpr ⟨b, hb, rfl⟩)))
theorem base0 (c : He.SaysX fa fn [] tf ex w h K) (hK : K.In base) (hn : base.Ns mainGlobals mg) : Base P w mg base ((cfg K).at pa) t0 1 := by
  have hx := c.more
  obtain ⟨isx, hx⟩ := He.ba hx
  obtain ⟨nfx, hx⟩ := He.ba hx
  obtain ⟨ob0, hx⟩ := He.ba hx
  obtain ⟨mk0, hx⟩ := He.ba hx
  obtain ⟨no0, hx⟩ := He.ba hx
  obtain ⟨eq0, hx⟩ := He.ba hx
  have usm : ∀ n, us n = true → n ∈ usN := fun n h => List.contains_iff_mem.mp h
  obtain ⟨x0, hx⟩ := He.ba hx
  have x0 := excB_ok x0
  obtain ⟨x1, hx⟩ := He.ba hx
  have x1 := excB_ok x1
  obtain ⟨x2, hx⟩ := He.ba hx
  have x2 := excB_ok x2
  obtain ⟨x3, hx⟩ := He.ba hx
  have x3 := excB_ok x3
  obtain ⟨x4, hx⟩ := He.ba hx
  have x4 := excB_ok x4
  obtain ⟨y0, hx⟩ := He.ba hx
  have y0 := baseB_ok y0
  obtain ⟨d0, F0⟩ := c.t.d.def_ 21 (d := di "BadTable" "BadTable.__init__" 2) rfl
  obtain ⟨d1, F1⟩ := c.t.d.def_ 22 (d := di "BadNumber" "BadNumber.__init__" 3) rfl
  obtain ⟨d2, F2⟩ := c.t.d.def_ 23 (d := di "BadRow" "BadRow.__init__" 4) rfl
  obtain ⟨d3, F3⟩ := c.t.d.def_ 24 (d := di "BadWish" "BadWish.__init__" 5) rfl
  obtain ⟨d4, F4⟩ := c.t.d.def_ 25 (d := di "Unlike" "Unlike.__init__" 6) rfl
  have objs : ∀ n, (if false = true then L2.ExcC K (clO K n) else ObjTy K (clO K n)) ∨ us n = false := fun n => by
    by_cases h : us n = true
    · left
      rw [if_neg (by decide)]
      have h := usm n h
      simp only [usN, List.mem_cons, List.not_mem_nil, or_false] at h
      rcases h with rfl
      · exact objCB_ok ob0
    · right
      simpa using h
  have cls : ∀ n, us n = true → mg (Str.ofString (cn n)) = some (.ref (clO K n)) := fun n h => by
    have h := usm n h
    simp only [usN, List.mem_cons, List.not_mem_nil, or_false] at h
    rcases h with rfl
    · exact (He.glo_ok hK hn (c.t.d.fact 27 (f := .glo "Web") rfl))
  have fld : ∀ n g, us n = true → g ∈ F n → NoAttr K (clO K n) (Str.ofString g) := fun n g h hg => by
    have h := usm n h
    simp only [usN, List.mem_cons, List.not_mem_nil, or_false] at h
    rcases h with rfl
    · exact noFB_ok no0 g hg
  refine ⟨fun m z => (nomatch z), blt_ok c hK hn, fun z => (nomatch z), objs, cls, isi_exc (us := usN) usm isx, fld, fun m z => ?_, fun _ _ _ z => (nomatch z), fun _ z => (nomatch z), fun _ z => (nomatch z), fun _ z => (nomatch z)⟩
  match m, z with
  | 0, _ => exact ⟨⟨(He.glo_ok hK hn (c.t.d.fact 22 (f := .glo "BadTable") rfl)), x0.oex, (by show (List.map Str.ofString (["table"] : List String)).Nodup; decide), _, d0, Ni_BadTable, x0.ini, x0.ity, ini_BadTable F0 (He.glo_ok hK hn (c.t.d.fact 21 (f := .glo "CornerError") rfl)) y0 x0.oex x0.no, F0.bindsN fun _ _ _ _ _ _ us hl => match us, hl with | [_, _], _ => rfl⟩, rfl⟩
  | 1, _ => exact ⟨⟨(He.glo_ok hK hn (c.t.d.fact 23 (f := .glo "BadNumber") rfl)), x1.oex, (by show (List.map Str.ofString (["what", "number"] : List String)).Nodup; decide), _, d1, Ni_BadNumber, x1.ini, x1.ity, ini_BadNumber F1 (He.glo_ok hK hn (c.t.d.fact 21 (f := .glo "CornerError") rfl)) y0 x1.oex x1.no, F1.bindsN fun _ _ _ _ _ _ us hl => match us, hl with | [_, _, _], _ => rfl⟩, rfl⟩
  | 2, _ => exact ⟨⟨(He.glo_ok hK hn (c.t.d.fact 24 (f := .glo "BadRow") rfl)), x2.oex, (by show (List.map Str.ofString (["row"] : List String)).Nodup; decide), _, d2, Ni_BadRow, x2.ini, x2.ity, ini_BadRow F2 (He.glo_ok hK hn (c.t.d.fact 21 (f := .glo "CornerError") rfl)) y0 x2.oex x2.no, F2.bindsN fun _ _ _ _ _ _ us hl => match us, hl with | [_, _], _ => rfl⟩, rfl⟩
  | 3, _ => exact ⟨⟨(He.glo_ok hK hn (c.t.d.fact 25 (f := .glo "BadWish") rfl)), x3.oex, (by show (List.map Str.ofString (["what", "value"] : List String)).Nodup; decide), _, d3, Ni_BadWish, x3.ini, x3.ity, ini_BadWish F3 (He.glo_ok hK hn (c.t.d.fact 21 (f := .glo "CornerError") rfl)) y0 x3.oex x3.no, F3.bindsN fun _ _ _ _ _ _ us hl => match us, hl with | [_, _, _], _ => rfl⟩, rfl⟩
  | 4, _ => exact ⟨⟨(He.glo_ok hK hn (c.t.d.fact 26 (f := .glo "Unlike") rfl)), x4.oex, (by show (List.map Str.ofString (["what"] : List String)).Nodup; decide), _, d4, Ni_Unlike, x4.ini, x4.ity, ini_Unlike F4 (He.glo_ok hK hn (c.t.d.fact 21 (f := .glo "CornerError") rfl)) y0 x4.oex x4.no, F4.bindsN fun _ _ _ _ _ _ us hl => match us, hl with | [_, _], _ => rfl⟩, rfl⟩
  | m + 5, z => exact absurd (of_decide_eq_true (show decide (m + 5 < 5) = true from z)) (by omega)
def cs : List (Nat × String) := [(0, "table"), (1, "number"), (2, "row"), (3, "wish"), (4, "unlike")]
theorem scG : FnScope ["work", "fault"] ["work"] (defScope (top 28)) := ⟨rfl, rfl, rfl, by decide +kernel, rfl, by decide +kernel, by decide +kernel⟩
theorem more_ok (c : He.SaysX fa fn [] tf ex w h K) (hK : K.In base) (hn : base.Ns mainGlobals mg) : (ExcFacts K (He.ga K "BadTable") ["table"] ∧ ExcFacts K (He.ga K "BadNumber") ["what", "number"] ∧ ExcFacts K (He.ga K "BadRow") ["row"] ∧ ExcFacts K (He.ga K "BadWish") ["what", "value"] ∧ ExcFacts K (He.ga K "Unlike") ["what"]) ∧ exmB K = true := by
  have hx := c.more
  obtain ⟨isx, hx⟩ := He.ba hx
  obtain ⟨nfx, hx⟩ := He.ba hx
  obtain ⟨ob0, hx⟩ := He.ba hx
  obtain ⟨mk0, hx⟩ := He.ba hx
  obtain ⟨no0, hx⟩ := He.ba hx
  obtain ⟨eq0, hx⟩ := He.ba hx
  obtain ⟨x0, hx⟩ := He.ba hx
  obtain ⟨x1, hx⟩ := He.ba hx
  obtain ⟨x2, hx⟩ := He.ba hx
  obtain ⟨x3, hx⟩ := He.ba hx
  obtain ⟨x4, hx⟩ := He.ba hx
  obtain ⟨y0, hx⟩ := He.ba hx
  exact ⟨⟨excB_ok x0, excB_ok x1, excB_ok x2, excB_ok x3, excB_ok x4⟩, hx⟩
theorem tags_ok (c : He.SaysX fa fn [] tf ex w h K) (hK : K.In base) (hn : base.Ns mainGlobals mg) : Tags ((cfg K).at pa) K cs := by
  have m := (more_ok c hK hn).2
  have m2 : ∀ x ∈ exN, ∀ y ∈ exN, PySem.W.exmOne K (.ref (He.ga K x)) (.ref (He.ga K y)) = some (decide (x = y)) := fun x hx y hy => of_decide_eq_true (List.all_eq_true.mp (List.all_eq_true.mp m x hx) y hy)
  refine ⟨fun p hp => ?_, fun e tag z => ?_, fun e he p hp => ?_, fun e => ?_⟩
  · simp only [cs, List.mem_cons, List.not_mem_nil, or_false] at hp
    rcases hp with rfl | rfl | rfl | rfl | rfl <;> rfl
  · replace z : F (2000 + e) = [tag] := z
    match e, z with
    | 0, _ => exact ⟨(0, "table"), by simp [cs], rfl⟩
    | 1, _ => exact ⟨(1, "number"), by simp [cs], rfl⟩
    | 2, _ => exact ⟨(2, "row"), by simp [cs], rfl⟩
    | 3, _ => exact ⟨(3, "wish"), by simp [cs], rfl⟩
    | 4, _ => exact ⟨(4, "unlike"), by simp [cs], rfl⟩
    | e + 5, z =>
      unfold F at z
      split at z <;> first | omega | cases z
  · obtain ⟨p', hp', rfl⟩ := he
    simp only [cs, List.mem_cons, List.not_mem_nil, or_false] at hp hp'
    rcases hp with rfl | rfl | rfl | rfl | rfl <;> rcases hp' with rfl | rfl | rfl | rfl | rfl <;> exact (m2 _ (by simp [exN, cfg, Cf.at, en]) _ (by simp [exN, cfg, Cf.at, en])).trans (by decide)
  · show (F (1000 + e)).length ≤ 100
    unfold F
    split <;> decide
theorem catcher (c : He.SaysX fa fn [] tf ex w h K) (hK : K.In base) (hn : base.Ns mainGlobals mg) {X : Cx} {g : Addr} {cdg : Value} (e1 : X.K = K) (e2 : X.mg = mg) : Catcher X ((cfg K).at pa) "_law_fault" g cdg (defScope (top 28)) (defBody (top 28)) "work" "fault" cs := by
  obtain ⟨⟨x0, x1, x2, x3, x4⟩, _⟩ := more_ok c hK hn
  refine ⟨⟨_, _, _, _, _, _, _, _, _, rfl, fun s H => ?_⟩, scG, by decide +kernel, .inl (by decide +kernel), by decide, by decide⟩
  subst e1 e2
  refine HdsA.cons ⟨by rfl, by decide, .inl (He.glo_ok hK hn (c.t.d.fact 22 (f := .glo "BadTable") rfl))⟩ (fun a oe cls d pn hz hf => pss_one (ps_ret (pe_tup (pa_cons pe_str (pa_cons (pe_xfld x0.cat (x0.no "table" (by simp)) hz hf (pv 1) rfl) pa_nil))))) ?_
  refine HdsA.cons ⟨by rfl, by decide, .inl (He.glo_ok hK hn (c.t.d.fact 23 (f := .glo "BadNumber") rfl))⟩ (fun a oe cls d pn hz hf => pss_one (ps_ret (pe_tup (pa_cons pe_str (pa_cons (pe_xfld x1.cat (x1.no "what" (by simp)) hz hf (pv 1) rfl) (pa_cons (pe_xfld x1.cat (x1.no "number" (by simp)) hz hf (pv 1) rfl) pa_nil)))))) ?_
  refine HdsA.cons ⟨by rfl, by decide, .inl (He.glo_ok hK hn (c.t.d.fact 24 (f := .glo "BadRow") rfl))⟩ (fun a oe cls d pn hz hf => pss_one (ps_ret (pe_tup (pa_cons pe_str (pa_cons (pe_xfld x2.cat (x2.no "row" (by simp)) hz hf (pv 1) rfl) pa_nil))))) ?_
  refine HdsA.cons ⟨by rfl, by decide, .inl (He.glo_ok hK hn (c.t.d.fact 25 (f := .glo "BadWish") rfl))⟩ (fun a oe cls d pn hz hf => pss_one (ps_ret (pe_tup (pa_cons pe_str (pa_cons (pe_xfld x3.cat (x3.no "what" (by simp)) hz hf (pv 1) rfl) (pa_cons (pe_xfld x3.cat (x3.no "value" (by simp)) hz hf (pv 1) rfl) pa_nil)))))) ?_
  refine HdsA.cons ⟨by rfl, by decide, .inl (He.glo_ok hK hn (c.t.d.fact 26 (f := .glo "Unlike") rfl))⟩ (fun a oe cls d pn hz hf => pss_one (ps_ret (pe_tup (pa_cons pe_str (pa_cons (pe_xfld x4.cat (x4.no "what" (by simp)) hz hf (pv 1) rfl) pa_nil))))) ?_
  exact HdsA.nil
theorem b_is_whole (c : He.SaysX fa fn [] tf ex w h K) (hK : K.In base) (hn : base.Ns mainGlobals mg) : Base P w mg base ((cfg K).at pa) t_is_whole 3 := by
  obtain ⟨fd, F⟩ := c.t.d.def_ 0 (d := dd "is_whole" 8) rfl
  exact (base0 c hK hn).add 0 F sc_is_whole (He.glo_ok hK hn (c.t.d.fact 0 (f := .glo "is_whole") rfl)) (F.bindsN (ps := ["value"]) fun _ _ _ _ _ _ us hl => match us, hl with | [_], _ => rfl) ck_is_whole (by intro _ _ _ _ _ _ _ _ _ _ _ _ _ _ _ _ _ _ z; cases z)
theorem b_is_row (c : He.SaysX fa fn [] tf ex w h K) (hK : K.In base) (hn : base.Ns mainGlobals mg) : Base P w mg base ((cfg K).at pa) t_is_row 5 := by
  obtain ⟨fd, F⟩ := c.t.d.def_ 1 (d := dd "is_row" 10) rfl
  exact (b_is_whole c hK hn).add 1 F sc_is_row (He.glo_ok hK hn (c.t.d.fact 1 (f := .glo "is_row") rfl)) (F.bindsN (ps := ["value"]) fun _ _ _ _ _ _ us hl => match us, hl with | [_], _ => rfl) ck_is_row (by intro _ _ _ _ _ _ _ _ _ _ _ _ _ _ _ _ _ _ z; cases z)
theorem b_need_between (c : He.SaysX fa fn [] tf ex w h K) (hK : K.In base) (hn : base.Ns mainGlobals mg) : Base P w mg base ((cfg K).at pa) t_need_between 7 := by
  obtain ⟨fd, F⟩ := c.t.d.def_ 2 (d := dd "need_between" 11) rfl
  exact (b_is_row c hK hn).add 2 F sc_need_between (He.glo_ok hK hn (c.t.d.fact 2 (f := .glo "need_between") rfl)) (F.bindsN (ps := ["what", "number", "low", "high"]) fun _ _ _ _ _ _ us hl => match us, hl with | [_, _, _, _], _ => rfl) ck_need_between (by intro _ _ _ _ _ _ _ _ _ _ _ _ _ _ _ _ _ _ z; cases z)
theorem b_labels_of (c : He.SaysX fa fn [] tf ex w h K) (hK : K.In base) (hn : base.Ns mainGlobals mg) : Base P w mg base ((cfg K).at pa) t_labels_of 9 := by
  obtain ⟨fd, F⟩ := c.t.d.def_ 3 (d := dd "labels_of" 13) rfl
  exact (b_need_between c hK hn).add 3 F sc_labels_of (He.glo_ok hK hn (c.t.d.fact 3 (f := .glo "labels_of") rfl)) (F.bindsN (ps := ["places", "ties"]) fun _ _ _ _ _ _ us hl => match us, hl with | [_, _], _ => rfl) ck_labels_of (by intro _ _ _ _ _ _ _ _ _ _ _ _ _ _ _ _ _ _ z; cases z)
theorem b_is_tie (c : He.SaysX fa fn [] tf ex w h K) (hK : K.In base) (hn : base.Ns mainGlobals mg) : Base P w mg base ((cfg K).at pa) t_is_tie 11 := by
  obtain ⟨fd, F⟩ := c.t.d.def_ 4 (d := dd "is_tie" 15) rfl
  exact (b_labels_of c hK hn).add 4 F sc_is_tie (He.glo_ok hK hn (c.t.d.fact 4 (f := .glo "is_tie") rfl)) (F.bindsN (ps := ["value", "places"]) fun _ _ _ _ _ _ us hl => match us, hl with | [_, _], _ => rfl) ck_is_tie (by intro _ _ _ _ _ _ _ _ _ _ _ _ _ _ _ _ _ _ z; cases z)
theorem b_Web_init (c : He.SaysX fa fn [] tf ex w h K) (hK : K.In base) (hn : base.Ns mainGlobals mg) : Base P w mg base ((cfg K).at pa) t_Web_init 14 := by
  obtain ⟨fd, F⟩ := c.t.d.def_ 26 (d := dm "Web" "__init__" "Web.__init__" 16 0) rfl
  have hx := c.more
  obtain ⟨isx, hx⟩ := He.ba hx
  obtain ⟨nfx, hx⟩ := He.ba hx
  obtain ⟨ob0, hx⟩ := He.ba hx
  obtain ⟨mk0, hx⟩ := He.ba hx
  obtain ⟨no0, hx⟩ := He.ba hx
  obtain ⟨eq0, hx⟩ := He.ba hx
  have usm : ∀ n, us n = true → n ∈ usN := fun n h => List.contains_iff_mem.mp h
  exact (b_is_tie c hK hn).addI 0 F sc_Web_init (He.glo_ok hK hn (c.t.d.fact 27 (f := .glo "Web") rfl)) (mkCB_ok mk0) (F.bindsN (ps := ["self", "places", "ties"]) fun _ _ _ _ _ _ us hl => match us, hl with | [_, _, _], _ => rfl) (show us 0 = true from by decide) rfl ck_Web_init rfl rfl
theorem b_Web_eq (c : He.SaysX fa fn [] tf ex w h K) (hK : K.In base) (hn : base.Ns mainGlobals mg) : Base P w mg base ((cfg K).at pa) t_Web_eq 17 := by
  obtain ⟨fd, F⟩ := c.t.d.def_ 27 (d := dm "Web" "__eq__" "Web.__eq__" 16 1) rfl
  have hx := c.more
  obtain ⟨isx, hx⟩ := He.ba hx
  obtain ⟨nfx, hx⟩ := He.ba hx
  obtain ⟨ob0, hx⟩ := He.ba hx
  obtain ⟨mk0, hx⟩ := He.ba hx
  obtain ⟨no0, hx⟩ := He.ba hx
  obtain ⟨eq0, hx⟩ := He.ba hx
  have usm : ∀ n, us n = true → n ∈ usN := fun n h => List.contains_iff_mem.mp h
  exact (b_Web_init c hK hn).addQ 0 F sc_Web_eq (eqCB_ok eq0).at_ (eqCB_ok eq0).fn (eqCB_ok eq0).cls (nfB_ok (c := ((cfg K).at pa).c) usm nfx (show us 0 = true from by decide)) (eqCB_ok eq0).obj (F.bindsN (ps := ["self", "other"]) fun _ _ _ _ _ _ us hl => match us, hl with | [_, _], _ => rfl) rfl (show us 0 = true from by decide) rfl ck_Web_eq rfl rfl
theorem b_need_web (c : He.SaysX fa fn [] tf ex w h K) (hK : K.In base) (hn : base.Ns mainGlobals mg) : Base P w mg base ((cfg K).at pa) t_need_web 19 := by
  obtain ⟨fd, F⟩ := c.t.d.def_ 5 (d := dd "need_web" 17) rfl
  exact (b_Web_eq c hK hn).add 5 F sc_need_web (He.glo_ok hK hn (c.t.d.fact 5 (f := .glo "need_web") rfl)) (F.bindsN (ps := ["web"]) fun _ _ _ _ _ _ us hl => match us, hl with | [_], _ => rfl) ck_need_web (by intro _ _ _ _ _ _ _ _ _ _ _ _ _ _ _ _ _ _ z; cases z)
theorem b_components (c : He.SaysX fa fn [] tf ex w h K) (hK : K.In base) (hn : base.Ns mainGlobals mg) : Base P w mg base ((cfg K).at pa) t_components 21 := by
  obtain ⟨fd, F⟩ := c.t.d.def_ 6 (d := dd "components" 18) rfl
  exact (b_need_web c hK hn).add 6 F sc_components (He.glo_ok hK hn (c.t.d.fact 6 (f := .glo "components") rfl)) (F.bindsN (ps := ["web"]) fun _ _ _ _ _ _ us hl => match us, hl with | [_], _ => rfl) ck_components (by intro _ _ _ _ _ _ _ _ _ _ _ _ _ _ _ _ _ _ z; cases z)
theorem b__law_labels (c : He.SaysX fa fn [] tf ex w h K) (hK : K.In base) (hn : base.Ns mainGlobals mg) : Base P w mg base ((cfg K).at pa) t__law_labels 23 := by
  obtain ⟨fd, F⟩ := c.t.d.def_ 7 (d := dd "_law_labels" 20) rfl
  exact (b_components c hK hn).add 7 F sc__law_labels (He.glo_ok hK hn (c.t.d.fact 7 (f := .glo "_law_labels") rfl)) (F.bindsN (ps := ["places", "ties"]) fun _ _ _ _ _ _ us hl => match us, hl with | [_, _], _ => rfl) ck__law_labels (by intro _ _ _ _ _ _ _ _ _ _ _ _ _ _ _ _ _ _ z; cases z)
theorem b__law_draw (c : He.SaysX fa fn [] tf ex w h K) (hK : K.In base) (hn : base.Ns mainGlobals mg) : Base P w mg base ((cfg K).at pa) t__law_draw 23 := by
  obtain ⟨fd, F⟩ := c.t.d.def_ 12 (d := dd "_law_draw" 25) rfl
  refine ((b__law_labels c hK hn).mono (k := 23) (by decide)).addG 12 drawF ((draw_ok (f := (cfg K).at pa) F (blt_ok c hK hn "len" (by decide)) (blt_ok c hK hn "int" (by decide))).mono (by decide)) (He.glo_ok hK hn (c.t.d.fact 12 (f := .glo "_law_draw") rfl)) F.kp (F.bindsN (ps := ["pen", "many"]) fun _ _ _ _ _ _ us hl => match us, hl with | [_, _], _ => rfl) fun l st hl => ?_
  unfold drawF at hl
  split at hl
  · rfl
  · exact absurd rfl hl
theorem b__law_pick (c : He.SaysX fa fn [] tf ex w h K) (hK : K.In base) (hn : base.Ns mainGlobals mg) : Base P w mg base ((cfg K).at pa) t__law_pick 25 := by
  obtain ⟨fd, F⟩ := c.t.d.def_ 13 (d := dd "_law_pick" 26) rfl
  exact (b__law_draw c hK hn).add 13 F sc__law_pick (He.glo_ok hK hn (c.t.d.fact 13 (f := .glo "_law_pick") rfl)) (F.bindsN (ps := ["pen", "some"]) fun _ _ _ _ _ _ us hl => match us, hl with | [_, _], _ => rfl) ck__law_pick (by intro _ _ _ _ _ _ _ _ _ _ _ _ _ _ _ _ _ _ z; cases z)
theorem b__law_any_web (c : He.SaysX fa fn [] tf ex w h K) (hK : K.In base) (hn : base.Ns mainGlobals mg) : Base P w mg base ((cfg K).at pa) t__law_any_web 27 := by
  obtain ⟨fd, F⟩ := c.t.d.def_ 8 (d := dd "_law_any_web" 21) rfl
  exact (b__law_pick c hK hn).add 8 F sc__law_any_web (He.glo_ok hK hn (c.t.d.fact 8 (f := .glo "_law_any_web") rfl)) (F.bindsN (ps := ["pen", "most", "many"]) fun _ _ _ _ _ _ us hl => match us, hl with | [_, _, _], _ => rfl) ck__law_any_web (by intro _ _ _ _ _ _ _ _ _ _ _ _ _ _ _ _ _ _ z; cases z)
theorem b__law_odd (c : He.SaysX fa fn [] tf ex w h K) (hK : K.In base) (hn : base.Ns mainGlobals mg) : Base P w mg base ((cfg K).at pa) t__law_odd 29 := by
  obtain ⟨fd, F⟩ := c.t.d.def_ 9 (d := dd "_law_odd" 22) rfl
  exact (b__law_any_web c hK hn).add 9 F sc__law_odd (He.glo_ok hK hn (c.t.d.fact 9 (f := .glo "_law_odd") rfl)) (F.bindsN (ps := ["pen"]) fun _ _ _ _ _ _ us hl => match us, hl with | [_], _ => rfl) ck__law_odd (by intro _ _ _ _ _ _ _ _ _ _ _ _ _ _ _ _ _ _ z; cases z)
theorem b__law_same (c : He.SaysX fa fn [] tf ex w h K) (hK : K.In base) (hn : base.Ns mainGlobals mg) : Base P w mg base ((cfg K).at pa) t__law_same 31 := by
  obtain ⟨fd, F⟩ := c.t.d.def_ 10 (d := dd "_law_same" 23) rfl
  exact (b__law_odd c hK hn).add 10 F sc__law_same (He.glo_ok hK hn (c.t.d.fact 10 (f := .glo "_law_same") rfl)) (F.bindsN (ps := ["fault", "due"]) fun _ _ _ _ _ _ us hl => match us, hl with | [_, _], _ => rfl) ck__law_same (by intro _ _ _ _ _ _ _ _ _ _ _ _ _ _ _ _ _ _ z; cases z)
theorem b__law_as_passed (c : He.SaysX fa fn [] tf ex w h K) (hK : K.In base) (hn : base.Ns mainGlobals mg) : Base P w mg base ((cfg K).at pa) t__law_as_passed 33 := by
  obtain ⟨fd, F⟩ := c.t.d.def_ 14 (d := dd "_law_as_passed" 27) rfl
  have F2 : FunD K "_law_as_passed" "_law_as_passed" (defArgs (top 27)) [.Assign [.Name "way" _] _ _, .If _ [.Return (some _) _] [] _, .Return (some (.IfExp _ _ _ _)) _] (defScope (top 27)) [] [] (He.ga K "_law_as_passed") fd := F
  refine ((b__law_same c hK hn).mono (k := 33) (by decide)).addF 14 f__law_as_passed (passed_ok (f := (cfg K).at pa) (e1 := pe1) (e2 := pe2) (e4 := pe4) (e5 := pe5) (r6 := pe6) F2 sc__law_as_passed (b__law_same c hK hn) rfl rfl (by decide +kernel) rfl rfl (show chk N__law_as_passed us t__law_same _ _ _ = true from by decide +kernel) (show chk N__law_as_passed us t__law_same _ _ _ = true from by decide +kernel) (show chk N__law_as_passed us t__law_same _ _ _ = true from by decide +kernel) (show chk N__law_as_passed us t__law_same _ _ _ = true from by decide +kernel) rfl (show chk N__law_as_passed us t__law_same _ _ _ = true from by decide +kernel) (show chk N__law_as_passed us t__law_same _ _ _ = true from by decide +kernel)) (He.glo_ok hK hn (c.t.d.fact 14 (f := .glo "_law_as_passed") rfl)) F.kp (F.bindsN (ps := ["pen", "table"]) fun _ _ _ _ _ _ us hl => match us, hl with | [_, _], _ => rfl) fun l st hl => ?_
  unfold f__law_as_passed passF at hl
  split at hl
  · exact absurd rfl hl
  · rfl
  · exact absurd rfl hl
theorem b__law_components (c : He.SaysX fa fn [] tf ex w h K) (hK : K.In base) (hn : base.Ns mainGlobals mg) : Base P w mg base ((cfg K).at pa) t__law_components 35 := by
  obtain ⟨fd, F⟩ := c.t.d.def_ 16 (d := dd "_law_components" 29) rfl
  exact (b__law_as_passed c hK hn).add 16 F sc__law_components (He.glo_ok hK hn (c.t.d.fact 16 (f := .glo "_law_components") rfl)) (F.bindsN (ps := ["places", "ties"]) fun _ _ _ _ _ _ us hl => match us, hl with | [_, _], _ => rfl) ck__law_components (by intro _ _ _ _ _ _ _ _ _ _ _ _ _ _ _ _ _ _ z; cases z)
theorem b__law_near (c : He.SaysX fa fn [] tf ex w h K) (hK : K.In base) (hn : base.Ns mainGlobals mg) : Base P w mg base ((cfg K).at pa) t__law_near 37 := by
  obtain ⟨fd, F⟩ := c.t.d.def_ 17 (d := dd "_law_near" 30) rfl
  exact (b__law_components c hK hn).add 17 F sc__law_near (He.glo_ok hK hn (c.t.d.fact 17 (f := .glo "_law_near") rfl)) (F.bindsN (ps := ["pen", "places", "ties"]) fun _ _ _ _ _ _ us hl => match us, hl with | [_, _, _], _ => rfl) ck__law_near (by intro _ _ _ _ _ _ _ _ _ _ _ _ _ _ _ _ _ _ z; cases z)
theorem b__law_good (c : He.SaysX fa fn [] tf ex w h K) (hK : K.In base) (hn : base.Ns mainGlobals mg) : Base P w mg base ((cfg K).at pa) t__law_good 39 := by
  obtain ⟨fd, F⟩ := c.t.d.def_ 18 (d := dd "_law_good" 31) rfl
  exact (b__law_near c hK hn).add 18 F sc__law_good (He.glo_ok hK hn (c.t.d.fact 18 (f := .glo "_law_good") rfl)) (F.bindsN (ps := ["pen", "most", "many"]) fun _ _ _ _ _ _ us hl => match us, hl with | [_, _, _], _ => rfl) ck__law_good (by intro _ _ _ _ _ _ _ _ _ _ _ _ _ _ _ _ _ _ z; cases z)
theorem cat__law_bad (c : He.SaysX fa fn [] tf ex w h K) (hK : K.In base) (hn : base.Ns mainGlobals mg) (hT : ∀ p ∈ tf.map (He.cT K), LamX.TabB base mg p.1 p.2) : CatF P w mg base ((cfg K).at pa) tc__law_bad 40 N__law_bad "_law_bad" "_law_bad" (defArgs (top 32)) (defBody (top 32)) (defScope (top 32)) (He.ga K "_law_bad") := by
  intro oc od dV kV doc pm an cdv ct osl A outer sh H E lk hcd hr _
  obtain ⟨dg, G⟩ := c.t.d.def_ 15 (d := dd "_law_fault" 28) rfl
  have bg := G.bindsN (ps := ["work"]) fun _ _ _ _ _ _ us hl => match us, hl with | [_], _ => rfl
  obtain ⟨oc2, od2, dV2, kV2, doc2, pm2, an2, cdg, ct2, osl2, rfl, lk2, hcd2, _, _⟩ := G.ex
  obtain ⟨c0, rfl⟩ := He.codeIn_ref hcd
  have e0 : He.codeOf K ("_law_bad", none) = c0 := He.codeOf_eq lk rfl
  have B := b__law_good (P := P) (w := w) (pa := pa) c hK hn
  refine ⟨He.ga K "_law_fault", cdg, defScope (top 28), defBody (top 28), "work", "fault", cs, c0, (He.cT K ("_law_bad", none)).2, 39, defArgs (top 28), dV2, kV2, doc2, pm2, ct2, oc2, an2, od2, osl2, (He.glo_ok hK hn (c.t.d.fact 15 (f := .glo "_law_fault") rfl)), G.kp, lk2, hcd2, bg, catcher c hK hn rfl rfl, tags_ok c hK hn, ?_, rfl, List.mem_cons_self, fun p hp _ => ?_, hr.mono (by decide), Base.offC (t := tc__law_bad) B.withC⟩
  · have := hT (He.cT K ("_law_bad", none)) (List.mem_map.mpr ⟨_, List.mem_cons_self, rfl⟩)
    rw [show (He.cT K ("_law_bad", none)).1 = c0 from e0] at this
    exact this
  · rcases List.mem_cons.mp hp with rfl | hp
    · rfl
    · cases hp
theorem b__law_bad (c : He.SaysX fa fn [] tf ex w h K) (hK : K.In base) (hn : base.Ns mainGlobals mg) (hT : ∀ p ∈ tf.map (He.cT K), LamX.TabB base mg p.1 p.2) : Base P w mg base ((cfg K).at pa) t__law_bad 42 := by
  obtain ⟨fd, F⟩ := c.t.d.def_ 19 (d := dd "_law_bad" 32) rfl
  have B := (Base.withC ((b__law_good (P := P) (w := w) (pa := pa) c hK hn).mono (k := 40) (by decide))).add 19 F sc__law_bad (He.glo_ok hK hn (c.t.d.fact 19 (f := .glo "_law_bad") rfl)) (F.bindsN (ps := ["pen"]) fun _ _ _ _ _ _ us hl => match us, hl with | [_], _ => rfl) ck__law_bad (cat__law_bad c hK hn hT)
  exact B.offC
end
end Law
end VC
set_option Elab.async false
set_option linter.all false
set_option maxRecDepth 100000
set_option maxHeartbeats 0
/-! the law's end. Printed by cat0.py. -/
namespace VC
namespace Law
open PySem PySem.Spec PyProof.Rows L2
section
variable {P : Program} {w : World} {mg : Str → Option Value} {base h : Heap} {K : PySem.W.Frag} {pa : Addr × Addr}
theorem law_ok (c : He.SaysX fa fn [] tf ex w h K) (hK : K.In base) (hn : base.Ns mainGlobals mg) {s₁ : Shared} {H₀ : Hp} {a : Addr} {ns : List Int} (hT : ∀ p ∈ tf.map (He.cT K), LamX.TabB base mg p.1 p.2) (ht : ∀ p ∈ tf.map (He.cT K), H₀ p.2 = some (.tbl #[])) (hS : SqL K H₀ a (ns.map V.int)) (e0 : Env0 P w K mg base callerA [] s₁ H₀)
    (law : ∃ st', exS t_law.Phi F s_law (.no :: .val .pen :: List.replicate 2 .no) (pen0 ns) = .ok (.rt (.bl true)) st') :
    codeAny (model P w) callerA (.call (.ref (He.ga K "law")) ⟨[.ref a], []⟩) (CR (L2.CX P w) [] P w H₀ s₁ (fun v _ => v = .bl true) (fun _ _ _ => False)) s₁ := by
  obtain ⟨fd, FL⟩ := c.t.d.def_ 20 (d := dd "law" 33) rfl
  obtain ⟨fp, FP⟩ := c.t.d.def_ 11 (d := dd "_law_pen" 24) rfl
  refine law_run (f := cfg K) (t := tc_law) (k := 42) (N := N_law) (sc := "script") (cx := "script") FL sc_law (FL.bindsN fun _ _ _ _ _ _ us hl => match us, hl with | [_], _ => rfl) ((pen_ok FP (blt_ok c hK hn "int" (by decide)) (blt_ok c hK hn "list" (by decide))).mono (by decide)) (FP.bindsN fun _ _ _ _ _ _ us hl => match us, hl with | [_], _ => rfl) (He.glo_ok hK hn (c.t.d.fact 11 (f := .glo "_law_pen") rfl)) FP.kp
    (fun pa => ?_) (fun pa => ?_) (by decide) ⟨"pen", _, _, _, _, _, rfl, rfl, rfl, (by decide +kernel), by decide +kernel, by decide +kernel, by decide, by decide⟩ rfl ck_law rfl (by constructor <;> decide) e0 (fun p hp => ?_) hS law
  · have B := (b__law_bad (P := P) (w := w) (pa := pa) c hK hn hT).mono (k := 42) (by decide)
    exact B.offC
  · intro _ _ _ _ _ _ _ _ _ _ _ _ _ _ _ _ _ _ z
    cases z
  · obtain ⟨p', hp', rfl⟩ := List.mem_map.mp hp
    exact ht _ (List.mem_map.mpr ⟨p', hp', rfl⟩)
end
end Law
end VC
set_option Elab.async false
set_option linter.all false
/-! labels of a graph's places by two roads: merged along ties, and least marks lap by lap; no program in sight. -/
namespace VC
namespace Blk
inductive Con (A : Nat → Nat → Prop) (u : Nat) : Nat → Prop
  | refl : Con A u u
  | step {v w : Nat} : Con A u v → A v w → Con A u w
section
variable {N : Nat} {A : Nat → Nat → Prop} {u v w m : Nat}
theorem Con.trans (h1 : Con A u v) (h2 : Con A v w) : Con A u w := by
  induction h2 with
  | refl => exact h1
  | step _ a ih => exact ih.step a
theorem Con.symm (hs : ∀ v w, A v w → A w v) (h : Con A u v) : Con A v u := by
  induction h with
  | refl => exact .refl
  | step _ a ih => exact (Con.step .refl (hs _ _ a)).trans ih
theorem Con.lt (hl : ∀ v w, A v w → w < N) (h : Con A u v) (hu : u < N) : v < N := by
  cases h with
  | refl => exact hu
  | step _ a => exact hl _ _ a
/-! ### least marks -/
structure Mk (A : Nat → Nat → Prop) (N k : Nat) (g : Nat → Nat) : Prop where
  own : ∀ v, Con A v (g v)
  le : ∀ v, g v ≤ v
  grow : ∀ m, (∀ w, Con A m w → g w ≤ m) ∨ k + 1 ≤ ((List.range N).filter fun v => decide (g v ≤ m)).length
theorem Mk.start (h : 0 < N) : Mk A N 0 id := by
  refine ⟨fun v => .refl, fun v => Nat.le_refl _, fun m => .inr ?_⟩
  have : 0 ∈ (List.range N).filter fun v => decide (id v ≤ m) := by simp [h]
  have := List.length_pos_of_mem this
  omega
/-- within a lap -/
structure Lap (A : Nat → Nat → Prop) (g0 g : Nat → Nat) (done : Nat → Nat → Prop) : Prop where
  own : ∀ v, Con A v (g v)
  le : ∀ v, g v ≤ g0 v
  d : ∀ i j, done i j → g i ≤ g0 j ∧ g j ≤ g0 i
def upd (g : Nat → Nat) (i x : Nat) : Nat → Nat := fun v => if v = i then x else g v
theorem Lap.one {g0 g : Nat → Nat} {done : Nat → Nat → Prop} {i j : Nat} (h : Lap A g0 g done) (hs : ∀ v w, A v w → A w v) (a : A i j) :
    Lap A g0 (upd (upd g i (min (g i) (g j))) j (min (g i) (g j))) fun v w => done v w ∨ (v = i ∧ w = j) := by
  have hle : ∀ v, upd (upd g i (min (g i) (g j))) j (min (g i) (g j)) v ≤ g v := fun v => by
    unfold upd
    split
    · subst v; omega
    · split
      · subst v; omega
      · exact Nat.le_refl _
  have hi : upd (upd g i (min (g i) (g j))) j (min (g i) (g j)) i ≤ g j := by
    unfold upd
    split
    · omega
    · rw [if_pos rfl]; omega
  have hj : upd (upd g i (min (g i) (g j))) j (min (g i) (g j)) j ≤ g i := by
    unfold upd
    rw [if_pos rfl]; omega
  have ci : Con A i (min (g i) (g j)) := by
    rcases Nat.le_total (g i) (g j) with e | e
    · rw [Nat.min_eq_left e]; exact h.own i
    · rw [Nat.min_eq_right e]; exact (Con.step .refl a).trans (h.own j)
  refine ⟨fun v => ?_, fun v => Nat.le_trans (hle v) (h.le v), fun v w hd => ?_⟩
  · unfold upd
    split
    · subst v
      exact (Con.step .refl (hs _ _ a)).trans ci
    · split
      · subst v; exact ci
      · exact h.own v
  · rcases hd with hd | ⟨rfl, rfl⟩
    · have := h.d v w hd
      exact ⟨Nat.le_trans (hle v) this.1, Nat.le_trans (hle w) this.2⟩
    · exact ⟨Nat.le_trans hi (h.le _), Nat.le_trans hj (h.le _)⟩
theorem filter_lt {p q : Nat → Bool} : ∀ {l : List Nat}, (∀ v ∈ l, p v = true → q v = true) → (∃ v ∈ l, p v = false ∧ q v = true) → (l.filter p).length < (l.filter q).length
  | [], _, h => by
    obtain ⟨v, hv, _⟩ := h
    simp at hv
  | a :: l, h1, h2 => by
    have hle : ∀ l : List Nat, (∀ v ∈ l, p v = true → q v = true) → (l.filter p).length ≤ (l.filter q).length := fun l hl => by
      induction l with
      | nil => simp
      | cons b l ih =>
        have := ih fun v hv => hl v (List.mem_cons_of_mem _ hv)
        have hb := hl b List.mem_cons_self
        rw [List.filter_cons, List.filter_cons]
        cases hp : p b <;> cases hq : q b
        · simpa using this
        · simp; omega
        · simp [hp, hq] at hb
        · simp; omega
    have h3 := hle l fun v hv => h1 v (List.mem_cons_of_mem _ hv)
    have ha := h1 a List.mem_cons_self
    obtain ⟨v, hv, e1, e2⟩ := h2
    rw [List.filter_cons, List.filter_cons]
    rcases List.mem_cons.mp hv with rfl | hv
    · simp [e1, e2]; omega
    · have h4 := filter_lt (l := l) (fun v hv => h1 v (List.mem_cons_of_mem _ hv)) ⟨v, hv, e1, e2⟩
      cases hp : p a <;> cases hq : q a
      · simpa using h4
      · simp; omega
      · simp [hp, hq] at ha
      · simp; omega
theorem Mk.lap {k : Nat} {g g' : Nat → Nat} (h : Mk A N k g) (hl : ∀ v w, A v w → w < N) (own : ∀ v, Con A v (g' v)) (le : ∀ v, g' v ≤ g v) (ed : ∀ v w, A v w → g' w ≤ g v) : Mk A N (k + 1) g' := by
  refine ⟨own, fun v => Nat.le_trans (le v) (h.le v), fun m => ?_⟩
  rcases h.grow m with h1 | h1
  · exact .inl fun w hw => Nat.le_trans (le w) (h1 w hw)
  · by_cases h2 : ∀ w, Con A m w → g w ≤ m
    · exact .inl fun w hw => Nat.le_trans (le w) (h2 w hw)
    · refine .inr ?_
      have : ∃ v w, A v w ∧ g v ≤ m ∧ ¬ g w ≤ m := Classical.byContradiction fun hn => h2 fun w hw => by
        induction hw with
        | refl => exact h.le m
        | step _ a ih => exact Classical.byContradiction fun hw => hn ⟨_, _, a, ih, hw⟩
      obtain ⟨v, w, a, e1, e2⟩ := this
      have := filter_lt (l := List.range N) (p := fun v => decide (g v ≤ m)) (q := fun v => decide (g' v ≤ m)) (fun v _ hv => decide_eq_true (Nat.le_trans (le v) (of_decide_eq_true hv))) ⟨w, List.mem_range.mpr (hl _ _ a), decide_eq_false e2, decide_eq_true (Nat.le_trans (ed v w a) e1)⟩
      omega
theorem Mk.end {g : Nat → Nat} (h : Mk A N N g) : ∀ m w, Con A m w → g w ≤ m := fun m => by
  rcases h.grow m with h1 | h1
  · exact h1
  · have := List.length_filter_le (fun v => decide (g v ≤ m)) (List.range N)
    rw [List.length_range] at this
    omega
/-! ### labels that are right -/
structure Lb (A : Nat → Nat → Prop) (g : Nat → Nat) : Prop where
  own : ∀ v, Con A v (g v)
  le : ∀ v, g v ≤ v
  ed : ∀ v w, A v w → g v = g w
theorem Lb.con {g : Nat → Nat} (h : Lb A g) (c : Con A u v) : g u = g v := by
  induction c with
  | refl => rfl
  | step _ a ih => exact ih.trans (h.ed _ _ a)
theorem Lb.uniq {g g' : Nat → Nat} (h : Lb A g) (h' : Lb A g') : g = g' := by
  funext v
  have h1 : g v ≤ g' v := by
    rw [h.con (h'.own v)]
    exact h.le _
  have h2 : g' v ≤ g v := by
    rw [h'.con (h.own v)]
    exact h'.le _
  omega
theorem Mk.lb {g : Nat → Nat} (h : Mk A N N g) (hs : ∀ v w, A v w → A w v) : Lb A g := by
  refine ⟨h.own, h.le, fun v w a => ?_⟩
  have h1 := h.end (g v) w (((h.own v).symm hs).step a)
  have h2 := h.end (g w) v (((h.own w).symm hs).step (hs _ _ a))
  omega
/-- a web's ties -/
def Adj (t : List (Nat × Nat)) (v w : Nat) : Prop := (v, w) ∈ t ∨ (w, v) ∈ t
theorem Adj.symm {t : List (Nat × Nat)} : ∀ v w, Adj t v w → Adj t w v := fun _ _ h => h.elim .inr .inl
theorem Con.mono {A B : Nat → Nat → Prop} (h : ∀ v w, A v w → B v w) (c : Con A u v) : Con B u v := by
  induction c with
  | refl => exact .refl
  | step _ a ih => exact ih.step (h _ _ a)
/-- one more tie -/
def mrg (x y : Nat) (L : List Nat) : List Nat := if x = y then L else L.map fun z => if z = max x y then min x y else z
def gOf (ml : List Nat) (v : Nat) : Nat := ml.getD v v
theorem gOf_eq {ml : List Nat} {v : Nat} (h : v < ml.length) : ml[v]? = some (gOf ml v) := by
  unfold gOf
  rw [List.getD_eq_getElem?_getD, List.getElem?_eq_getElem h]
  rfl
theorem gOf_out {ml : List Nat} {v : Nat} (h : ml.length ≤ v) : gOf ml v = v := by
  unfold gOf
  rw [List.getD_eq_getElem?_getD, List.getElem?_eq_none h]
  rfl
theorem gOf_set {ml : List Nat} {i x : Nat} (hi : i < ml.length) : gOf (ml.set i x) = upd (gOf ml) i x := by
  funext v
  unfold gOf upd
  simp only [List.getD_eq_getElem?_getD, List.getElem?_set]
  by_cases hv : i = v
  · subst hv
    simp [hi]
  · have : ¬ v = i := fun e => hv e.symm
    simp [hv, this]
theorem gOf_range (N : Nat) : gOf (List.range N) = id := by
  funext v
  unfold gOf
  rw [List.getD_eq_getElem?_getD]
  by_cases h : v < N
  · simp [h]
  · simp [h]
theorem gOf_ext {l m : List Nat} (hl : l.length = m.length) (h : gOf l = gOf m) : l = m := by
  refine List.ext_getElem? fun v => ?_
  by_cases hv : v < l.length
  · rw [gOf_eq hv, gOf_eq (hl ▸ hv), h]
  · rw [List.getElem?_eq_none (by omega), List.getElem?_eq_none (by omega)]
theorem mrg_len (x y : Nat) (L : List Nat) : (mrg x y L).length = L.length := by
  unfold mrg
  split
  · rfl
  · rw [List.length_map]
theorem mrg_at {x y : Nat} {L : List Nat} {v : Nat} (h : v < L.length) : gOf (mrg x y L) v = if gOf L v = max x y then min x y else gOf L v := by
  unfold mrg
  split
  · next e =>
    subst e
    split
    · omega
    · rfl
  · have h1 := gOf_eq h
    unfold gOf at *
    simp only [List.getD_eq_getElem?_getD, List.getElem?_map] at *
    rw [h1]
    rfl
/-- labels merged tie by tie -/
def lab (p : Nat) (t : List (Nat × Nat)) : List Nat := t.foldl (fun L e => mrg (gOf L e.1) (gOf L e.2) L) (List.range p)
theorem lab_app (p : Nat) (t : List (Nat × Nat)) (e : Nat × Nat) : lab p (t ++ [e]) = mrg (gOf (lab p t) e.1) (gOf (lab p t) e.2) (lab p t) := by
  unfold lab
  rw [List.foldl_append]
  rfl
theorem lab_one {p : Nat} {t : List (Nat × Nat)} {L : List Nat} {a b : Nat} (hl : L.length = p) (h : Lb (Adj t) (gOf L)) (ha : a < p) (hb : b < p) : Lb (Adj (t ++ [(a, b)])) (gOf (mrg (gOf L a) (gOf L b) L)) := by
  have up : ∀ v w, Adj t v w → Adj (t ++ [(a, b)]) v w := fun v w h => h.elim (fun h => .inl (List.mem_append_left _ h)) fun h => .inr (List.mem_append_left _ h)
  have ab : Con (Adj (t ++ [(a, b)])) a b := Con.step .refl (.inl (List.mem_append_right _ (List.mem_singleton.mpr rfl)))
  have own : ∀ v, Con (Adj (t ++ [(a, b)])) v (gOf L v) := fun v => (h.own v).mono up
  have ga : Con (Adj (t ++ [(a, b)])) (gOf L a) (gOf L b) := (((own a).symm Adj.symm).trans ab).trans (own b)
  have gm : Con (Adj (t ++ [(a, b)])) (max (gOf L a) (gOf L b)) (min (gOf L a) (gOf L b)) := by
    rcases Nat.le_total (gOf L a) (gOf L b) with e | e
    · rw [Nat.max_eq_right e, Nat.min_eq_left e]
      exact ga.symm Adj.symm
    · rw [Nat.max_eq_left e, Nat.min_eq_right e]
      exact ga
  have out : ∀ v, p ≤ v → gOf (mrg (gOf L a) (gOf L b) L) v = v := fun v hv => gOf_out (by rw [mrg_len]; omega)
  refine ⟨fun v => ?_, fun v => ?_, fun v w e => ?_⟩
  · by_cases hv : v < p
    · rw [mrg_at (by omega)]
      split
      · next e => exact (e ▸ own v).trans gm
      · exact own v
    · rw [out v (by omega)]
      exact .refl
  · by_cases hv : v < p
    · rw [mrg_at (by omega)]
      have := h.le v
      split
      · omega
      · exact this
    · rw [out v (by omega)]
      exact Nat.le_refl v
  · have key : ∀ v w, (v, w) ∈ t ++ [(a, b)] → gOf (mrg (gOf L a) (gOf L b) L) v = gOf (mrg (gOf L a) (gOf L b) L) w := fun v w hm => by
      rcases List.mem_append.mp hm with hm | hm
      · have e := h.ed v w (.inl hm)
        by_cases hv : v < p
        · by_cases hw : w < p
          · rw [mrg_at (by omega), mrg_at (by omega), e]
          · rw [gOf_out (v := w) (by omega)] at e
            have := h.le v
            omega
        · by_cases hw : w < p
          · rw [gOf_out (v := v) (by omega)] at e
            have := h.le w
            omega
          · rw [gOf_out (v := v) (by omega), gOf_out (v := w) (by omega)] at e
            rw [e]
      · have e := List.mem_singleton.mp hm
        cases e
        rw [mrg_at (by omega), mrg_at (by omega)]
        rcases Nat.le_total (gOf L a) (gOf L b) with e | e
        · rw [Nat.max_eq_right e, Nat.min_eq_left e]
          split <;> split <;> omega
        · rw [Nat.max_eq_left e, Nat.min_eq_right e]
          split <;> split <;> omega
    rcases e with e | e
    · exact key v w e
    · exact (key w v e).symm
theorem lab_ok {p : Nat} : ∀ (t s : List (Nat × Nat)) (L : List Nat), L.length = p → Lb (Adj s) (gOf L) → (∀ e ∈ t, e.1 < p ∧ e.2 < p) → (t.foldl (fun L e => mrg (gOf L e.1) (gOf L e.2) L) L).length = p ∧ Lb (Adj (s ++ t)) (gOf (t.foldl (fun L e => mrg (gOf L e.1) (gOf L e.2) L) L))
  | [], s, L, hl, h, _ => by
    rw [List.append_nil]
    exact ⟨hl, h⟩
  | (a, b) :: t, s, L, hl, h, hb => by
    have he := hb (a, b) List.mem_cons_self
    have := lab_ok t (s ++ [(a, b)]) (mrg (gOf L a) (gOf L b) L) (by rw [mrg_len, hl]) (lab_one hl h he.1 he.2) fun e h => hb e (List.mem_cons_of_mem _ h)
    rw [List.append_assoc] at this
    exact this
theorem lab_lb {p : Nat} {t : List (Nat × Nat)} (h : ∀ e ∈ t, e.1 < p ∧ e.2 < p) : (lab p t).length = p ∧ Lb (Adj t) (gOf (lab p t)) := by
  have := lab_ok t [] (List.range p) List.length_range (by
    rw [gOf_range]
    exact ⟨fun v => .refl, fun v => Nat.le_refl _, fun v w e => e.elim (fun e => nomatch e) fun e => nomatch e⟩) h
  exact this
end
end Blk
end VC
set_option Elab.async false
set_option linter.all false
set_option maxRecDepth 100000
set_option maxHeartbeats 4000000
set_option exponentiation.threshold 2000
/-! the plain law of k32: webs and their components by values. -/
namespace VC
section
variable {Φ : Fns} {F : Flds} {ρ ρ' : Env} {e : E} {d : D}
theorem x_expr (h : ev Φ F e ρ = .ret d) : exS Φ F (.expr e) ρ = .ret (.nx ρ) := by simp only [exS, h, M.bind_ret]
theorem x_exprE {er : Err} (h : ev Φ F e ρ = .err er) : exS Φ F (.expr e) ρ = .err er := by simp only [exS, h, M.bind_err]
end
namespace Law
open PySem PySem.Spec PyProof.Rows L2
open Blk (Mk Lap Lb Adj lab mrg gOf gOf_set gOf_range gOf_eq gOf_ext lab_lb lab_app)
theorem ph_need_between_is_whole : t_is_row.Phi 0 = f_is_whole := rfl
theorem ph_is_tie_is_whole : t_labels_of.Phi 0 = f_is_whole := rfl
theorem ph_is_tie_is_row : t_labels_of.Phi 1 = f_is_row := rfl
theorem ph_init_need_between : t_is_tie.Phi 2 = f_need_between := rfl
theorem ph_init_is_row : t_is_tie.Phi 1 = f_is_row := rfl
theorem ph_init_is_tie : t_is_tie.Phi 4 = f_is_tie := rfl
theorem ph_components_need_web : t_need_web.Phi 5 = f_need_web := rfl
theorem ph_components_labels_of : t_need_web.Phi 3 = f_labels_of := rfl
theorem ph__law_components__law_labels : t__law_as_passed.Phi 7 = f__law_labels := rfl
def tieD (e : Nat × Nat) : D := .tup [nd e.1, nd e.2]
def tiesD (t : List (Nat × Nat)) : D := .tup (t.map tieD)
def webD (p : Nat) (t : List (Nat × Nat)) : D := .obj 0 [nd p, tiesD t]
/-- a web that may be -/
structure Fit (p : Nat) (t : List (Nat × Nat)) : Prop where
  p1 : 1 ≤ p
  p2 : p ≤ 40
  len : t.length ≤ 60
  ends : ∀ e ∈ t, e.1 < p ∧ e.2 < p
theorem eq_nat (a b : Nat) : dcmp .eq (nd a) (nd b) = some (decide (a = b)) := by
  rw [nd, nd, cmpq_eq]
  congr 1
  rw [decide_eq_decide]
  omega
theorem ne_nat (a b : Nat) : dcmp .ne (nd a) (nd b) = some (!decide (a = b)) := by
  show (dcmp .eq (nd a) (nd b)).map (!·) = _
  rw [eq_nat]
  rfl
theorem min_nat (a b : Nat) : dbi .min [nd a, nd b] = some (nd (min a b)) := by
  show some (D.int _) = some (D.int _)
  congr 2
  split <;> omega
theorem max_nat (a b : Nat) : dbi .max [nd a, nd b] = some (nd (max a b)) := by
  show some (D.int _) = some (D.int _)
  congr 2
  split <;> omega
theorem gOf_at {ml : List Nat} {i : Nat} (hi : i < ml.length) : dix (.lst (nds ml)) (nd i) = some (nd (gOf ml i)) := by
  refine dix_lst ?_
  rw [nds, List.getElem?_map, gOf_eq hi]
  rfl
theorem nds_map (L : List Nat) (f : Nat → Nat) : nds (L.map f) = L.map fun z => nd (f z) := by
  rw [nds, List.map_map]
  rfl
theorem labels_eq {p : Nat} {t : List (Nat × Nat)} (hp : p ≤ 40) (ht : ∀ e ∈ t, e.1 < p ∧ e.2 < p) : f_labels_of [nd p, tiesD t] = M.ret (.lst (nds (lab p t))) := by
  refine f_run rfl ?_
  show exS _ _ s_labels_of [.val (nd p), .val (tiesD t), .no, .no, .no, .no, .no, .no] = _
  unfold s_labels_of
  refine (x_seq (x_set (v_listIt (l := nds (List.range p)) (vs_cons (v_var rfl) vs_nil) (range_items (by omega))))).trans ?_
  show exS _ _ _ [.val (nd p), .val (tiesD t), .val (.lst (nds (lab p []))), .no, .no, .no, .no, .no] = _
  obtain ⟨ρ', e1, b3, b4, b5, b6, b7, rfl⟩ := x_forN (Φ := t_need_between.Phi) (F := F) (tg := .tup [3, 4]) (k := .seq) (r := .cons (.var 1) .nil) (ρ := [.val (nd p), .val (tiesD t), .val (.lst (nds (lab p []))), .no, .no, .no, .no, .no]) (l := t) tieD
    (s := (.seq (.par [.name 5, .name 6] (.cons (.bi .min (.cons (.ix (.var 2) (.var 3)) (.cons (.ix (.var 2) (.var 4)) .nil))) (.cons (.bi .max (.cons (.ix (.var 2) (.var 3)) (.cons (.ix (.var 2) (.var 4)) .nil))) .nil)))
  (.seq (.ite (.cmp .ne (.var 5) (.var 6)) (.seq (.set 2 (.comp (.ite (.cmp .eq (.var 7) (.var 6)) (.var 5) (.var 7)) (.name 7) .seq (.cons (.var 2) .nil) .nil))
  .skip) .skip)
  .skip)))
    (fun j ρ => ∃ b3 b4 b5 b6 b7, ρ = [.val (nd p), .val (tiesD t), .val (.lst (nds (lab p (t.take j)))), b3, b4, b5, b6, b7])
    (vs_cons (v_var rfl) vs_nil) rfl ⟨_, _, _, _, _, rfl⟩
    (fun j e σ ha hi => by
      obtain ⟨b3, b4, b5, b6, b7, rfl⟩ := hi
      obtain ⟨a, b⟩ := e
      have hab := ht _ (List.mem_of_getElem? ha)
      have hl : (lab p (t.take j)).length = p := (lab_lb fun e he => ht e (List.mem_of_mem_take he)).1
      have hs : t.take (j + 1) = t.take j ++ [(a, b)] := by rw [List.take_add_one, ha]; rfl
      rw [hs, lab_app]
      generalize lab p (t.take j) = L at hl ⊢
      refine ⟨_, [.val (nd p), .val (tiesD t), .val (.lst (nds (mrg (gOf L a) (gOf L b) L))), .val (nd a), .val (nd b), .val (nd (min (gOf L a) (gOf L b))), .val (nd (max (gOf L a) (gOf L b))), b7], rfl, .inl ?_, _, _, _, _, _, rfl⟩
      have ea : ∀ {b5 b6 : SD}, ev t_need_between.Phi F (.ix (.var 2) (.var 3)) [.val (nd p), .val (tiesD t), .val (.lst (nds L)), .val (nd a), .val (nd b), b5, b6, b7] = .ret (nd (gOf L a)) := v_ix (v_var rfl) (v_var rfl) (gOf_at (by rw [hl]; exact hab.1))
      have eb : ∀ {b5 b6 : SD}, ev t_need_between.Phi F (.ix (.var 2) (.var 4)) [.val (nd p), .val (tiesD t), .val (.lst (nds L)), .val (nd a), .val (nd b), b5, b6, b7] = .ret (nd (gOf L b)) := v_ix (v_var rfl) (v_var rfl) (gOf_at (by rw [hl]; exact hab.2))
      refine (x_seq (x_par (vs_cons (v_bi (vs_cons ea (vs_cons eb vs_nil)) (min_nat _ _)) (vs_cons (v_bi (vs_cons ea (vs_cons eb vs_nil)) (max_nat _ _)) vs_nil)) rfl)).trans ?_
      show exS _ _ _ [.val (nd p), .val (tiesD t), .val (.lst (nds L)), .val (nd a), .val (nd b), .val (nd (min (gOf L a) (gOf L b))), .val (nd (max (gOf L a) (gOf L b))), b7] = _
      have ec : ev t_need_between.Phi F (.cmp .ne (.var 5) (.var 6)) [.val (nd p), .val (tiesD t), .val (.lst (nds L)), .val (nd a), .val (nd b), .val (nd (min (gOf L a) (gOf L b))), .val (nd (max (gOf L a) (gOf L b))), b7] = .ret (.bl (!decide (min (gOf L a) (gOf L b) = max (gOf L a) (gOf L b)))) := v_cmp (v_var rfl) (v_var rfl) (ne_nat _ _)
      by_cases he : gOf L a = gOf L b
      · rw [decide_eq_true (by omega)] at ec
        refine (x_seq (x_if0 ec rfl)).trans ?_
        rw [mrg, if_pos he]
        exact x_skip
      · rw [decide_eq_false (by omega)] at ec
        refine (x_seq ((x_iteT ec rfl).trans ((x_seq (x_set (v_compB (l := L) nd (fun z => nd (if z = max (gOf L a) (gOf L b) then min (gOf L a) (gOf L b) else z)) (vs_cons (v_var rfl) vs_nil) rfl fun z _ => ⟨_, rfl, ?_⟩))).trans x_skip))).trans ?_
        · show ev _ _ _ [.val (nd p), .val (tiesD t), .val (.lst (nds L)), .val (nd a), .val (nd b), .val (nd (min (gOf L a) (gOf L b))), .val (nd (max (gOf L a) (gOf L b))), .val (nd z)] = _
          by_cases hz : z = max (gOf L a) (gOf L b)
          · rw [if_pos hz]
            exact (v_iteT (x := .bl true) (v_cmp (v_var rfl) (v_var rfl) ((eq_nat _ _).trans (by rw [decide_eq_true hz]))) rfl).trans (v_var rfl)
          · rw [if_neg hz]
            exact (v_iteF (x := .bl false) (v_cmp (v_var rfl) (v_var rfl) ((eq_nat _ _).trans (by rw [decide_eq_false hz]))) rfl).trans (v_var rfl)
        · rw [mrg, if_neg he, nds_map]
          exact x_skip)
  rw [List.take_length] at e1
  refine (x_seq e1).trans ?_
  exact x_seqR (x_ret (v_var rfl))
/-! ### components -/
def compD (p : Nat) (L : List Nat) (r : Nat) : D := .tup (nds ((List.range p).filter fun v => decide (gOf L v = r)))
def outL (p : Nat) (L : List Nat) (k : Nat) : List D := ((List.range k).filter fun r => decide (gOf L r = r)).map (compD p L)
def compsD (p : Nat) (L : List Nat) : D := .tup (outL p L p)
theorem outL_succ (p : Nat) (L : List Nat) (k : Nat) : outL p L (k + 1) = if gOf L k = k then outL p L k ++ [compD p L k] else outL p L k := by
  unfold outL
  rw [List.range_succ, List.filter_append, List.map_append]
  by_cases h : gOf L k = k
  · rw [if_pos h]
    simp [h]
  · rw [if_neg h]
    simp [h]
theorem outL_len (p : Nat) (L : List Nat) (k : Nat) : (outL p L k).length ≤ k := by
  unfold outL
  rw [List.length_map]
  have := List.length_filter_le (fun r => decide (gOf L r = r)) (List.range k)
  rwa [List.length_range] at this
theorem need_web_eq (p : Nat) (t : List (Nat × Nat)) : f_need_web [webD p t] = M.ret .non := by
  unfold f_need_web defF
  rw [if_pos (by rfl)]
  unfold runF
  have e : ev t_Web_eq.Phi F (.no (.bi (.isi [(.own 0)]) (.cons (.var 0) .nil))) [.val (webD p t)] = .ret (.bl false) := v_no (t := true) (v_bi (vs_cons (v_var rfl) vs_nil) rfl) rfl
  show M.bind (exS _ _ s_need_web [.val (webD p t)]) _ = _
  unfold s_need_web
  rw [(x_seq (x_if0 e rfl)).trans x_skip, M.bind_ret]
theorem components_eq {p : Nat} {t : List (Nat × Nat)} (h : Fit p t) : f_components [webD p t] = M.ret (compsD p (lab p t)) := by
  have hp := h.p2
  have hl : (lab p t).length = p := (lab_lb h.ends).1
  refine f_run rfl ?_
  show exS _ _ s_components [.val (webD p t), .no, .no, .no, .no] = _
  unfold s_components
  refine (x_seq (x_expr ((v_call (vs_cons (v_var (d := webD p t) rfl) vs_nil)).trans (by rw [ph_components_need_web]; exact need_web_eq p t)))).trans ?_
  have el : ev t_need_web.Phi F (.call 3 (.cons (.fld (.var 0) "places") (.cons (.fld (.var 0) "ties") .nil))) [.val (webD p t), .no, .no, .no, .no] = .ret (.lst (nds (lab p t))) :=
    (v_call (vs_cons (v_fld (d := nd p) (v_var rfl) rfl) (vs_cons (v_fld (d := tiesD t) (v_var rfl) rfl) vs_nil))).trans (by rw [ph_components_labels_of]; exact labels_eq hp h.ends)
  refine (x_seq (x_par (vs_cons el (vs_cons (v_lst vs_nil) vs_nil)) rfl)).trans ?_
  generalize lab p t = L at hl ⊢
  show exS _ _ _ [.val (webD p t), .val (.lst (nds L)), .own (outL p L 0), .no, .no] = _
  obtain ⟨ρ', e1, b3, rfl⟩ := x_forN (Φ := t_need_web.Phi) (F := F) (tg := .name 3) (k := .range) (r := .cons (.fld (.var 0) "places") .nil) (ρ := [.val (webD p t), .val (.lst (nds L)), .own (outL p L 0), .no, .no]) (l := List.range p) nd
    (s := (.seq (.ite (.cmp .eq (.ix (.var 1) (.var 3)) (.var 3)) (.seq (.append 2 (.bi .tuple (.cons (.comp (.var 4) (.name 4) .range (.cons (.fld (.var 0) "places") .nil) (.cons (.cmp .eq (.ix (.var 1) (.var 4)) (.var 3)) .nil)) .nil)))
  .skip) .skip)
  .skip))
    (fun j ρ => ∃ b3, ρ = [.val (webD p t), .val (.lst (nds L)), .own (outL p L j), b3, .no])
    (vs_cons (v_fld (d := nd p) (v_var rfl) rfl) vs_nil) (range_items (by omega)) ⟨_, rfl⟩
    (fun j r σ ha hi => by
      obtain ⟨b3, rfl⟩ := hi
      obtain ⟨hk, hak⟩ := List.getElem?_eq_some_iff.mp ha
      have hrj : r = j := by rw [← hak]; simp
      subst hrj
      rw [List.length_range] at hk
      refine ⟨_, [.val (webD p t), .val (.lst (nds L)), .own (outL p L (r + 1)), .val (nd r), .no], rfl, .inl ?_, _, rfl⟩
      show exS _ _ _ [.val (webD p t), .val (.lst (nds L)), .own (outL p L r), .val (nd r), .no] = _
      have ec : ev t_need_web.Phi F (.cmp .eq (.ix (.var 1) (.var 3)) (.var 3)) [.val (webD p t), .val (.lst (nds L)), .own (outL p L r), .val (nd r), .no] = .ret (.bl (decide (gOf L r = r))) := v_cmp (v_ix (v_var rfl) (v_var rfl) (gOf_at (by omega))) (v_var rfl) (eq_nat _ _)
      rw [outL_succ]
      by_cases hr : gOf L r = r
      · rw [decide_eq_true hr] at ec
        rw [if_pos hr]
        refine (x_seq ((x_iteT ec rfl).trans ((x_seq (x_append (l := outL p L r) (d := compD p L r) rfl (v_bi (vs_cons (v_compA (l := List.range p) nd (fun v => decide (gOf L v = r)) nd (vs_cons (v_fld (d := nd p) (v_var rfl) rfl) vs_nil) (range_items (by omega)) fun v hv => ⟨_, _, rfl, v_cmp (v_ix (v_var rfl) (v_var rfl) (gOf_at (by rw [hl]; exact List.mem_range.mp hv))) (v_var rfl) (eq_nat _ _), rfl, fun _ => v_var rfl⟩) vs_nil) rfl) ?_)).trans x_skip))).trans x_skip
        have := outL_len p L r
        omega
      · rw [decide_eq_false hr] at ec
        rw [if_neg hr]
        exact (x_seq (x_if0 ec rfl)).trans x_skip)
  rw [List.length_range] at e1
  refine (x_seq e1).trans ?_
  exact x_seqR (x_ret (v_bi (vs_cons (v_bor rfl) vs_nil) rfl))
/-! ### the law's own labels and components -/
def s_tie : S := (.seq (.set 6 (.bi .min (.cons (.ix (.bor 2) (.var 4)) (.cons (.ix (.bor 2) (.var 5)) .nil))))
  (.seq (.par [.ix 2 (.var 4), .ix 2 (.var 5)] (.cons (.var 6) (.cons (.var 6) .nil)))
  .skip))
def envL (p : Nat) (t : List (Nat × Nat)) (ml : List Nat) (b3 b4 b5 b6 : SD) : Env := [.val (nd p), .val (tiesD t), .own (nds ml), b3, b4, b5, b6]
theorem tie_step {Φ : Fns} {p : Nat} {t : List (Nat × Nat)} {ml : List Nat} {i j : Nat} {b3 b6 : SD} (hl : ml.length = p) (hi : i < p) (hj : j < p) :
    exS Φ F s_tie (envL p t ml b3 (.val (nd i)) (.val (nd j)) b6) = .ret (.nx (envL p t ((ml.set i (min (gOf ml i) (gOf ml j))).set j (min (gOf ml i) (gOf ml j))) b3 (.val (nd i)) (.val (nd j)) (.val (nd (min (gOf ml i) (gOf ml j)))))) := by
  refine (x_seq (x_set (v_bi (vs_cons (v_ix (v_bor rfl) (v_var rfl) (gOf_at (by omega))) (vs_cons (v_ix (v_bor rfl) (v_var rfl) (gOf_at (by omega))) vs_nil)) (min_nat _ _)))).trans ?_
  refine (x_seq (x_par (vs_cons (v_var rfl) (vs_cons (v_var rfl) vs_nil)) ?_)).trans x_skip
  refine (p_ix (l := nds ml) (j := i) rfl (v_var rfl) (by rw [nds, List.length_map]; omega)).trans ?_
  refine (p_ix (l := (nds ml).set i (nd (min (gOf ml i) (gOf ml j)))) (j := j) rfl (v_var rfl) (by rw [List.length_set, nds, List.length_map]; omega)).trans ?_
  rw [p_nil]
  unfold envL
  rw [nds, nds, List.map_set, List.map_set]
  rfl
theorem lap_step {Φ : Fns} {p : Nat} {t : List (Nat × Nat)} {ml : List Nat} {b3 b4 b5 b6 : SD} {k : Nat} (ht : ∀ e ∈ t, e.1 < p ∧ e.2 < p) (hl : ml.length = p) (hk : Mk (Adj t) p k (gOf ml)) :
    ∃ ml' c4 c5 c6, exS Φ F (.seq (.for (.tup [4, 5]) .seq (.cons (.var 1) .nil) s_tie) .skip) (envL p t ml b3 b4 b5 b6) = .ret (.nx (envL p t ml' b3 c4 c5 c6)) ∧ ml'.length = p ∧ Mk (Adj t) p (k + 1) (gOf ml') := by
  obtain ⟨ρ', e1, ml', c4, c5, c6, h1, h2, rfl⟩ := x_forN (Φ := Φ) (F := F) (tg := .tup [4, 5]) (k := .seq) (r := .cons (.var 1) .nil) (ρ := envL p t ml b3 b4 b5 b6) (l := t) tieD
    (fun s ρ => ∃ ml' c4 c5 c6, ml'.length = p ∧ Lap (Adj t) (gOf ml) (gOf ml') (fun v w => ∃ q, q < s ∧ t[q]? = some (v, w)) ∧ ρ = envL p t ml' b3 c4 c5 c6)
    (vs_cons (v_var rfl) vs_nil) rfl ⟨ml, b4, b5, b6, hl, ⟨hk.own, fun v => Nat.le_refl _, fun i j ⟨s, hs, _⟩ => absurd hs (by omega)⟩, rfl⟩ (s := s_tie)
    (fun s a ρ ha hi => by
      obtain ⟨ml', c4, c5, c6, h1, h2, rfl⟩ := hi
      obtain ⟨i, j⟩ := a
      have hm := List.mem_of_getElem? ha
      obtain ⟨hi, hj⟩ := ht _ hm
      refine ⟨_, _, rfl, .inl (tie_step (ml := ml') (i := i) (j := j) h1 hi hj), _, _, _, _, ?_, ?_, rfl⟩
      · rw [List.length_set, List.length_set, h1]
      · have h3 := h2.one (i := i) (j := j) Adj.symm (.inl hm)
        rw [gOf_set (by rw [List.length_set, h1]; exact hj), gOf_set (by rw [h1]; exact hi)]
        refine ⟨h3.own, h3.le, fun v w ⟨q, hs, hp⟩ => h3.d v w ?_⟩
        by_cases hst : q < s
        · exact .inl ⟨q, hst, hp⟩
        · have : q = s := by omega
          subst this
          rw [ha] at hp
          cases hp
          exact .inr ⟨rfl, rfl⟩)
  refine ⟨ml', c4, c5, c6, (x_seq e1).trans x_skip, h1, hk.lap (fun v w a => ?_) h2.own h2.le fun v w a => ?_⟩
  · rcases a with a | a
    · exact (ht _ a).2
    · exact (ht _ a).1
  · have key : ∀ v w, (v, w) ∈ t → gOf ml' v ≤ gOf ml w ∧ gOf ml' w ≤ gOf ml v := fun v w hm => by
      obtain ⟨s, hs, he⟩ := List.mem_iff_getElem.mp hm
      exact h2.d v w ⟨s, hs, by rw [List.getElem?_eq_getElem hs, he]⟩
    rcases a with a | a
    · exact (key v w a).2
    · exact (key w v a).1
theorem law_labels_eq {p : Nat} {t : List (Nat × Nat)} (h : Fit p t) : f__law_labels [nd p, tiesD t] = M.ret (.lst (nds (lab p t))) := by
  have hp := h.p2
  have hp1 := h.p1
  refine f_run rfl ?_
  show exS _ _ s__law_labels [.val (nd p), .val (tiesD t), .no, .no, .no, .no, .no] = _
  show exS _ _ (.seq (.own 2 (.listIt .range (.cons (.var 0) .nil))) (.seq (.for (.name 3) .range (.cons (.var 0) .nil) (.seq (.for (.tup [4, 5]) .seq (.cons (.var 1) .nil) s_tie) .skip)) (.seq (.freeze 2) (.seq (.ret (.var 2)) .skip)))) _ = _
  refine (x_seq (x_own (v_listIt (l := nds (List.range p)) (vs_cons (v_var rfl) vs_nil) (range_items (by omega))))).trans ?_
  show exS _ _ _ (envL p t (List.range p) .no .no .no .no) = _
  obtain ⟨ρ', e1, ml, b3, b4, b5, b6, h1, h2, rfl⟩ := x_forN (Φ := t_components.Phi) (F := F) (tg := .name 3) (k := .range) (r := .cons (.var 0) .nil) (ρ := envL p t (List.range p) .no .no .no .no) (l := List.range p) nd
    (fun k ρ => ∃ ml b3 b4 b5 b6, ml.length = p ∧ Mk (Adj t) p k (gOf ml) ∧ ρ = envL p t ml b3 b4 b5 b6) (vs_cons (v_var rfl) vs_nil) (range_items (by omega))
    ⟨_, .no, .no, .no, .no, List.length_range, by rw [gOf_range]; exact Mk.start (by omega), rfl⟩ (s := .seq (.for (.tup [4, 5]) .seq (.cons (.var 1) .nil) s_tie) .skip)
    (fun k a ρ ha hi => by
      obtain ⟨ml, b3, b4, b5, b6, h1, h2, rfl⟩ := hi
      obtain ⟨ml', c4, c5, c6, e, h3, h4⟩ := lap_step (Φ := t_components.Phi) (b3 := .val (nd a)) (b4 := b4) (b5 := b5) (b6 := b6) h.ends h1 h2
      exact ⟨_, _, rfl, .inl e, ml', _, c4, c5, c6, h3, h4, rfl⟩)
  rw [List.length_range] at h2
  have hm : ml = lab p t := gOf_ext (h1.trans (lab_lb h.ends).1.symm) ((h2.lb Adj.symm).uniq (lab_lb h.ends).2)
  subst hm
  refine (x_seq e1).trans ?_
  refine (x_seq (x_freeze (l := nds (lab p t)) rfl)).trans ?_
  exact x_seqR (x_ret (v_var rfl))
theorem law_components_eq {p : Nat} {t : List (Nat × Nat)} (h : Fit p t) : f__law_components [nd p, tiesD t] = M.ret (compsD p (lab p t)) := by
  have hp := h.p2
  have hl : (lab p t).length = p := (lab_lb h.ends).1
  refine f_run rfl ?_
  show exS _ _ s__law_components [.val (nd p), .val (tiesD t), .no, .no, .no, .no] = _
  unfold s__law_components
  refine (x_seq (x_set ((v_call (vs_cons (v_var (d := nd p) rfl) (vs_cons (v_var (d := tiesD t) rfl) vs_nil))).trans (by rw [ph__law_components__law_labels]; exact law_labels_eq h)))).trans ?_
  refine (x_seq (x_own (v_lst vs_nil))).trans ?_
  generalize lab p t = L at hl ⊢
  show exS _ _ _ [.val (nd p), .val (tiesD t), .val (.lst (nds L)), .own (outL p L 0), .no, .no] = _
  obtain ⟨ρ', e1, b3, rfl⟩ := x_forN (Φ := t__law_as_passed.Phi) (F := F) (tg := .name 4) (k := .range) (r := .cons (.var 0) .nil) (ρ := [.val (nd p), .val (tiesD t), .val (.lst (nds L)), .own (outL p L 0), .no, .no]) (l := List.range p) nd
    (s := (.seq (.ite (.cmp .eq (.ix (.var 2) (.var 4)) (.var 4)) (.seq (.append 3 (.bi .tuple (.cons (.comp (.var 5) (.name 5) .range (.cons (.var 0) .nil) (.cons (.cmp .eq (.ix (.var 2) (.var 5)) (.var 4)) .nil)) .nil)))
  .skip) .skip)
  .skip))
    (fun j ρ => ∃ b3, ρ = [.val (nd p), .val (tiesD t), .val (.lst (nds L)), .own (outL p L j), b3, .no])
    (vs_cons (v_var rfl) vs_nil) (range_items (by omega)) ⟨_, rfl⟩
    (fun j r σ ha hi => by
      obtain ⟨b3, rfl⟩ := hi
      obtain ⟨hk, hak⟩ := List.getElem?_eq_some_iff.mp ha
      have hrj : r = j := by rw [← hak]; simp
      subst hrj
      rw [List.length_range] at hk
      refine ⟨_, [.val (nd p), .val (tiesD t), .val (.lst (nds L)), .own (outL p L (r + 1)), .val (nd r), .no], rfl, .inl ?_, _, rfl⟩
      show exS _ _ _ [.val (nd p), .val (tiesD t), .val (.lst (nds L)), .own (outL p L r), .val (nd r), .no] = _
      have ec : ev t__law_as_passed.Phi F (.cmp .eq (.ix (.var 2) (.var 4)) (.var 4)) [.val (nd p), .val (tiesD t), .val (.lst (nds L)), .own (outL p L r), .val (nd r), .no] = .ret (.bl (decide (gOf L r = r))) := v_cmp (v_ix (v_var rfl) (v_var rfl) (gOf_at (by omega))) (v_var rfl) (eq_nat _ _)
      rw [outL_succ]
      by_cases hr : gOf L r = r
      · rw [decide_eq_true hr] at ec
        rw [if_pos hr]
        refine (x_seq ((x_iteT ec rfl).trans ((x_seq (x_append (l := outL p L r) (d := compD p L r) rfl (v_bi (vs_cons (v_compA (l := List.range p) nd (fun v => decide (gOf L v = r)) nd (vs_cons (v_var rfl) vs_nil) (range_items (by omega)) fun v hv => ⟨_, _, rfl, v_cmp (v_ix (v_var rfl) (v_var rfl) (gOf_at (by rw [hl]; exact List.mem_range.mp hv))) (v_var rfl) (eq_nat _ _), rfl, fun _ => v_var rfl⟩) vs_nil) rfl) ?_)).trans x_skip))).trans x_skip
        have := outL_len p L r
        omega
      · rw [decide_eq_false hr] at ec
        rw [if_neg hr]
        exact (x_seq (x_if0 ec rfl)).trans x_skip)
  rw [List.length_range] at e1
  refine (x_seq e1).trans ?_
  exact x_seqR (x_ret (v_bi (vs_cons (v_bor rfl) vs_nil) rfl))
end Law
end VC
set_option Elab.async false
set_option linter.all false
set_option maxRecDepth 100000
set_option maxHeartbeats 4000000
set_option exponentiation.threshold 2000
/-! k32: webs made, webs that are none, __eq__. -/
namespace VC
section
variable {Φ : Fns} {F : Flds} {ρ ρ' : Env} {a b c e r : E} {x y z d : D} {ds : List D}
theorem v_chain {o p : Cmp} {t u : Bool} (h1 : ev Φ F a ρ = .ret x) (h2 : ev Φ F b ρ = .ret y) (h3 : ev Φ F c ρ = .ret z) (q1 : dcmp o x y = some t) (q2 : dcmp p y z = some u) : ev Φ F (.chain o p a b c) ρ = .ret (.bl (t && u)) := by
  simp only [ev, h1, h2, h3, q1, q2, M.bind_ret, M.of_some]
  cases t <;> rfl
theorem v_eqO {neg : Bool} {n : Nat} {t : Bool} (h1 : ev Φ F a ρ = .ret x) (h2 : ev Φ F b ρ = .ret y) (hx : (x.isObj n && y.okEq neg n) = true) (h : Φ (6000 + n) [x, y] = .ret (.bl t)) : ev Φ F (.eqO neg n a b) ρ = .ret (.bl (if neg then !t else t)) := by
  simp only [ev, h1, h2, M.bind_ret, hx, if_true, h, Function.comp, dNeg, M.of_some]
theorem v_mkI {n : Nat} (hr : hards r = true) (h : evs Φ F r ρ = .ret ds) : ev Φ F (.mkI n r) ρ = Φ (5000 + n) ds := by
  simp only [ev, h, M.bind_ret, hr, if_true]
theorem v_mkB {n : Nat} (h : evs Φ F r ρ = .ret ds) (h2 : Φ (5000 + n) ds = .ret d) (hd : (d.noL && d.still) = true) : ev Φ F (.mkI n r) ρ = .ret d := by
  simp only [ev, h, M.bind_ret]
  split
  · exact h2
  · rw [h2]
    funext s
    unfold M.tame M.ret
    simp only [hd, if_true]
theorem x_setF {n : Nat} {fs : List (String × D)} {f : String} (h : ev Φ F e ρ = .ret d) (h0 : ρ[0]? = some (.ins n fs)) (hc : (decide (fs.length < 500) && !((fs.map fun p => PySem.Str.ofString p.1).contains (PySem.Str.ofString f)) && ρ.tail.all SD.notIns && (F n).contains f) = true) : exS Φ F (.setF 0 f e) ρ = .ret (.nx (ρ.set 0 (.ins n (fs ++ [(f, d)])))) := by
  simp only [exS, h, M.bind_ret, h0]
  simp only [Bool.and_eq_true, decide_eq_true_eq, Bool.not_eq_true'] at hc
  rw [if_pos ⟨hc.1.1.1, hc.1.1.2, trivial, hc.1.2, hc.2⟩]
end
theorem still_mem : ∀ {l : List D} {d : D}, stills l = true → d ∈ l → d.still = true
  | a :: l, d, h, m => by
    simp only [stills, Bool.and_eq_true] at h
    rcases List.mem_cons.mp m with rfl | m
    · exact h.1
    · exact still_mem h.2 m
theorem still_items {d : D} {l : List D} (h : d.still = true) (e : items? d = some l) : stills l = true := by
  cases d <;> first | (cases e; simpa [D.still] using h) | cases e
def D.whole : D → Bool
  | .int _ => true
  | _ => false
theorem bools_map {l : List D} {g : D → Bool} : bools? (l.map fun d => D.bl (g d)) = some (l.map g) := by
  induction l with
  | nil => rfl
  | cons a l ih => simp only [List.map_cons, bools?, ih, Option.map_some]
theorem bools_all {l : List D} {g : D → Bool} : dAll [.lst (l.map fun d => D.bl (g d))] = some (.bl (l.all g)) := by
  simp only [dAll, bools_map, Option.map_some]
  congr 2
  simp [List.all_map]
theorem len_items {d : D} {l : List D} (e : items? d = some l) : dbi .len [d] = some (nd l.length) := by
  cases d <;> first | (cases e; rfl) | cases e
theorem seq_items {d : D} {l : List D} (e : items? d = some l) : dItems .seq [d] = some l := e
namespace Law
open PySem PySem.Spec PyProof.Rows L2
open Blk (Mk Lap Lb Adj lab mrg gOf gOf_set gOf_range gOf_eq gOf_ext lab_lb lab_app)
theorem whole_eq {d : D} (h : d.still = true) : f_is_whole [d] = M.ret (.bl (D.whole d)) := by
  unfold f_is_whole defF runF s_is_whole
  cases d <;> first | (simp [exS, ev, evs, dbi, dIsi, dtype, dtruth, D.whole, N_is_whole]; done) | cases h
theorem row_eq {d : D} (h : d.still = true) : f_is_row [d] = M.ret (.bl (items? d).isSome) := by
  unfold f_is_row defF runF s_is_row
  cases d <;> first | (simp [exS, ev, evs, dbi, dIsi, dtype, dtruth, items?, N_is_row]; done) | cases h
def endOk (p : Nat) : D → Bool
  | .int i => decide (0 ≤ i) && decide (i < p)
  | _ => false
def tieOk (p : Nat) (x : D) : Bool := match items? x with
  | some l => decide (l.length = 2) && l.all (endOk p)
  | none => false
def tiesOk (p : Nat) (x : D) : Bool := match items? x with
  | some l => decide (l.length ≤ 60) && l.all (tieOk p)
  | none => false
theorem tieOk_some {p : Nat} {x : D} {l : List D} (h : items? x = some l) : tieOk p x = (decide (l.length = 2) && l.all (endOk p)) := by
  unfold tieOk
  rw [h]
theorem tieOk_none {p : Nat} {x : D} (h : items? x = none) : tieOk p x = false := by
  unfold tieOk
  rw [h]
theorem tiesOk_some {p : Nat} {x : D} {l : List D} (h : items? x = some l) : tiesOk p x = (decide (l.length ≤ 60) && l.all (tieOk p)) := by
  unfold tiesOk
  rw [h]
theorem tiesOk_none {p : Nat} {x : D} (h : items? x = none) : tiesOk p x = false := by
  unfold tiesOk
  rw [h]
theorem is_tie_eq {p : Nat} {x : D} (hx : x.still = true) : f_is_tie [x, nd p] = M.ret (.bl (tieOk p x)) := by
  refine f_run rfl ?_
  show exS _ _ s_is_tie [.val x, .val (nd p), .no] = _
  unfold s_is_tie
  have er : ∀ {b2 : SD}, ev t_labels_of.Phi F (.no (.call 1 (.cons (.var 0) .nil))) [.val x, .val (nd p), b2] = .ret (.bl (!(items? x).isSome)) := v_no ((v_call (vs_cons (v_var (d := x) rfl) vs_nil)).trans (by rw [ph_is_tie_is_row]; exact row_eq hx)) rfl
  cases hi : items? x with
  | none =>
    rw [hi] at er
    rw [tieOk_none hi]
    refine x_seqR ((x_iteT (v_orT er rfl) rfl).trans (x_seqR (x_ret v_bl)))
  | some l =>
    rw [hi] at er
    rw [tieOk_some hi]
    have ec : ∀ {b2 : SD}, ev t_labels_of.Phi F (.cmp .ne (.bi .len (.cons (.var 0) .nil)) (.int 2)) [.val x, .val (nd p), b2] = .ret (.bl (!decide (l.length = 2))) := v_cmp (y := nd 2) (v_bi (vs_cons (v_var rfl) vs_nil) (len_items hi)) v_int (ne_nat _ _)
    by_cases hl : l.length = 2
    · rw [decide_eq_true hl] at ec
      refine (x_seq (x_if0 ((v_orF er rfl).trans ec) rfl)).trans ?_
      refine x_seqR (x_ret (v_bi (vs_cons (v_comp (l := l) (g := fun d => .bl (endOk p d)) (vs_cons (v_var rfl) vs_nil) (seq_items hi) fun d hd => ⟨[.val x, .val (nd p), .val d], rfl, ?_⟩) vs_nil) (bools_all.trans (by rw [decide_eq_true hl, Bool.true_and]))))
      have ew : ev t_labels_of.Phi F (.call 0 (.cons (.var 2) .nil)) [.val x, .val (nd p), .val d] = .ret (.bl (D.whole d)) := (v_call (vs_cons (v_var (d := d) rfl) vs_nil)).trans (by rw [ph_is_tie_is_whole]; exact whole_eq (still_mem (still_items hx hi) hd))
      cases d with
      | int i => exact (v_andT ew rfl).trans (v_chain (x := .int 0) (y := .int i) (z := nd p) v_int (v_var rfl) (v_var rfl) rfl rfl)
      | _ => exact v_andF ew rfl
    · rw [decide_eq_false hl] at ec
      rw [decide_eq_false hl, Bool.false_and]
      exact x_seqR ((x_iteT ((v_orF er rfl).trans ec) rfl).trans (x_seqR (x_ret v_bl)))
/-! ### numbers of places -/
theorem between_ok {p : Nat} (h1 : 1 ≤ p) (h2 : p ≤ 40) : f_need_between [.str (Str.ofString "places"), nd p, .int 1, .int 40] = M.ret .non := by
  unfold f_need_between defF
  rw [if_pos (by rfl)]
  unfold runF
  show M.bind (exS _ _ s_need_between [.val (.str (Str.ofString "places")), .val (nd p), .val (.int 1), .val (.int 40)]) _ = _
  unfold s_need_between
  have ew : ev t_is_row.Phi F (.no (.call 0 (.cons (.var 1) .nil))) [.val (.str (Str.ofString "places")), .val (nd p), .val (.int 1), .val (.int 40)] = .ret (.bl false) := v_no (t := true) ((v_call (vs_cons (v_var (d := nd p) rfl) vs_nil)).trans (by rw [ph_need_between_is_whole]; exact whole_eq rfl)) rfl
  rw [(x_seq (x_if0 ((v_orF ew rfl).trans ((v_orF (v_cmp (o := .lt) (x := nd p) (y := .int 1) (t := false) (v_var rfl) (v_var rfl) (show some (decide _) = _ from congrArg some (decide_eq_false (by omega)))) rfl).trans (v_cmp (o := .gt) (x := nd p) (y := .int 40) (t := false) (v_var rfl) (v_var rfl) (show some (decide _) = _ from congrArg some (decide_eq_false (by omega)))))) rfl)).trans x_skip, M.bind_ret]
def numL : List D := [.int 0, .int 41, .int (-1), .int (-40), .bl true, .non, .str (Str.ofString "3"), .tup [.int 3], .int (10 ^ 12)]
theorem between_no {d : D} (h : d ∈ numL) : f_need_between [.str (Str.ofString "places"), d, .int 1, .int 40] = M.err ⟨1, [.str (Str.ofString "places"), d]⟩ := by
  simp only [numL, List.mem_cons, List.not_mem_nil, or_false] at h
  rcases h with rfl | rfl | rfl | rfl | rfl | rfl | rfl | rfl | rfl <;> kernel_rfl
/-! ### a web made -/
theorem rows_of {t : List (Nat × Nat)} {f : Nat × Nat → D} (hf : ∀ e, items? (f e) = some [nd e.1, nd e.2]) {p : Nat} (he : ∀ e ∈ t, e.1 < p ∧ e.2 < p) : (t.map f).all (tieOk p) = true := by
  rw [List.all_eq_true]
  intro x hx
  obtain ⟨e, hm, rfl⟩ := List.mem_map.mp hx
  have := he e hm
  unfold tieOk
  rw [hf e]
  simp only [List.length_cons, List.length_nil, List.all_cons, List.all_nil, nd, endOk, Bool.and_true, Bool.and_eq_true, decide_eq_true_eq]
  refine ⟨trivial, ⟨?_, ?_⟩, ?_, ?_⟩ <;> omega
def s_ini : S := (.seq (.ite (.or (.no (.call 1 (.cons (.var 2) .nil))) (.or (.cmp .gt (.bi .len (.cons (.var 2) .nil)) (.int 60)) (.no (.bi .all (.cons (.comp (.call 4 (.cons (.var 3) (.cons (.var 1) .nil))) (.name 3) .seq (.cons (.var 2) .nil) .nil) .nil))))) (.seq (.raise 2 (.cons (.var 2) .nil))
  .skip) .skip)
  (.seq (.setF 0 "places" (.var 1))
  (.seq (.setF 0 "ties" (.bi .tuple (.cons (.comp (.bi .tuple (.cons (.var 3) .nil)) (.name 3) .seq (.cons (.var 2) .nil) .nil) .nil)))
  .skip)))
theorem init_test {p : Nat} {x : D} (hx : x.still = true) : ev t_is_tie.Phi F (.or (.no (.call 1 (.cons (.var 2) .nil))) (.or (.cmp .gt (.bi .len (.cons (.var 2) .nil)) (.int 60)) (.no (.bi .all (.cons (.comp (.call 4 (.cons (.var 3) (.cons (.var 1) .nil))) (.name 3) .seq (.cons (.var 2) .nil) .nil) .nil))))) [.ins 0 [], .val (nd p), .val x, .no] = .ret (.bl (!tiesOk p x)) := by
  have er : ev t_is_tie.Phi F (.no (.call 1 (.cons (.var 2) .nil))) [.ins 0 [], .val (nd p), .val x, .no] = .ret (.bl (!(items? x).isSome)) := v_no ((v_call (vs_cons (v_var (d := x) rfl) vs_nil)).trans (by rw [ph_init_is_row]; exact row_eq hx)) rfl
  cases hi : items? x with
  | none =>
    rw [hi] at er
    rw [tiesOk_none hi]
    exact v_orT er rfl
  | some l =>
    rw [hi] at er
    rw [tiesOk_some hi]
    refine (v_orF er rfl).trans ?_
    have eg : ev t_is_tie.Phi F (.cmp .gt (.bi .len (.cons (.var 2) .nil)) (.int 60)) [.ins 0 [], .val (nd p), .val x, .no] = .ret (.bl (decide ((60 : Int) < (l.length : Nat)))) := v_cmp (v_bi (vs_cons (v_var rfl) vs_nil) (len_items hi)) v_int rfl
    by_cases hl : l.length ≤ 60
    · rw [decide_eq_false (by omega)] at eg
      rw [decide_eq_true hl, Bool.true_and]
      refine (v_orF eg rfl).trans (v_no (v_bi (vs_cons (v_comp (l := l) (g := fun d => .bl (tieOk p d)) (vs_cons (v_var rfl) vs_nil) (seq_items hi) fun d hd => ⟨[.ins 0 [], .val (nd p), .val x, .val d], rfl, ?_⟩) vs_nil) bools_all) rfl)
      exact (v_call (vs_cons (v_var (d := d) rfl) (vs_cons (v_var (d := nd p) rfl) vs_nil))).trans (by rw [ph_init_is_tie]; exact is_tie_eq (still_mem (still_items hx hi) hd))
    · rw [decide_eq_true (by omega)] at eg
      rw [decide_eq_false hl]
      exact v_orT eg rfl
theorem init_walk {a b : D} : f_Web_init [a, b] = .bind (exS t_is_tie.Phi F (.seq (.expr (.call 2 (.cons (.str "places") (.cons (.var 1) (.cons (.int 1) (.cons (.int 40) .nil)))))) s_ini) [.ins 0 [], .val a, .val b, .no]) (initEnd F 0) := by kernel_rfl
theorem init_eq {p : Nat} {t : List (Nat × Nat)} {x : D} {f : Nat × Nat → D} (h : Fit p t) (hx : x.still = true) (hi : items? x = some (t.map f)) (hf : ∀ e, items? (f e) = some [nd e.1, nd e.2]) : f_Web_init [nd p, x] = M.ret (webD p t) := by
  rw [init_walk]
  have ok : tiesOk p x = true := by
    unfold tiesOk
    rw [hi]
    simp only [List.length_map, decide_eq_true h.len, Bool.true_and]
    exact rows_of hf h.ends
  have et := init_test (p := p) hx
  rw [ok] at et
  rw [x_seq (x_expr ((v_call (vs_cons v_str (vs_cons (v_var (d := nd p) rfl) (vs_cons v_int (vs_cons v_int vs_nil))))).trans (by rw [ph_init_need_between]; exact between_ok h.p1 h.p2)))]
  unfold s_ini
  rw [x_seq (x_if0 et rfl), x_seq (x_setF (n := 0) (fs := []) (d := nd p) (v_var rfl) rfl (by kernel_rfl))]
  have ez : ev t_is_tie.Phi F (.bi .tuple (.cons (.comp (.bi .tuple (.cons (.var 3) .nil)) (.name 3) .seq (.cons (.var 2) .nil) .nil) .nil)) [.ins 0 [("places", nd p)], .val (nd p), .val x, .no] = .ret (tiesD t) :=
    v_bi (vs_cons (v_compB (l := t) f tieD (vs_cons (v_var rfl) vs_nil) (seq_items hi) fun e _ => ⟨[.ins 0 [("places", nd p)], .val (nd p), .val x, .val (f e)], rfl, v_bi (vs_cons (v_var (d := f e) rfl) vs_nil) (by
      have := hf e
      cases he : f e <;> rw [he] at this <;> first | (cases this; rfl) | cases this)⟩) vs_nil) rfl
  have e2 : exS t_is_tie.Phi F (.setF 0 "ties" (.bi .tuple (.cons (.comp (.bi .tuple (.cons (.var 3) .nil)) (.name 3) .seq (.cons (.var 2) .nil) .nil) .nil))) [.ins 0 [("places", nd p)], .val (nd p), .val x, .no] = _ := x_setF (n := 0) (fs := [("places", nd p)]) ez rfl (by kernel_rfl)
  show M.bind (exS _ _ (.seq (.setF 0 "ties" _) .skip) [.ins 0 [("places", nd p)], .val (nd p), .val x, .no]) _ = _
  rw [x_seq e2, x_skip, M.bind_ret]
  rfl
theorem init_num {d x : D} (h : d ∈ numL) : f_Web_init [d, x] = M.err ⟨1, [.str (Str.ofString "places"), d]⟩ := by
  rw [init_walk, x_seqE (x_exprE ((v_call (vs_cons v_str (vs_cons (v_var (d := d) rfl) (vs_cons v_int (vs_cons v_int vs_nil))))).trans (by rw [ph_init_need_between]; exact between_no h))), M.bind_err]
theorem init_row {p : Nat} {x : D} (h1 : 1 ≤ p) (h2 : p ≤ 40) (hx : x.still = true) (ok : tiesOk p x = false) : f_Web_init [nd p, x] = M.err ⟨2, [x]⟩ := by
  have et := init_test (p := p) hx
  rw [ok] at et
  rw [init_walk]
  rw [x_seq (x_expr ((v_call (vs_cons v_str (vs_cons (v_var (d := nd p) rfl) (vs_cons v_int (vs_cons v_int vs_nil))))).trans (by rw [ph_init_need_between]; exact between_ok h1 h2)))]
  unfold s_ini
  rw [x_seqE ((x_iteT et rfl).trans (x_seqE (x_raise (vs_cons (v_var (d := x) rfl) vs_nil)))), M.bind_err]
/-! ### two webs -/
theorem nd_bare (n : Nat) (h : n < 2 ^ 100) : (nd n).bare = true := int_bare (by
  show ((n : Int).natAbs) < _
  rw [Int.natAbs_natCast]
  exact Nat.lt_trans h (by decide))
theorem nds_bare {l : List Nat} (h : ∀ n ∈ l, n < 2 ^ 100) : bares (nds l) = true := bares_of fun d hd => by
  obtain ⟨n, hn, rfl⟩ := List.mem_map.mp hd
  exact nd_bare n (h n hn)
theorem nds_depth (l : List Nat) : PyData.depthAll (pys (nds l)) ≤ 0 := depths_of fun d hd => by
  obtain ⟨n, hn, rfl⟩ := List.mem_map.mp hd
  rw [nd, depth_int]
  exact Nat.le_refl _
theorem nds_wt (l : List Nat) : wts (nds l) ≤ l.length * 1923 := by
  have := wts_of (k := 1921) (l := nds l) fun d hd => by
    obtain ⟨n, hn, rfl⟩ := List.mem_map.mp hd
    exact Nat.le_refl _
  rwa [nds, List.length_map] at this
theorem ties_bare {p : Nat} {t : List (Nat × Nat)} (hp : p ≤ 40) (h : ∀ e ∈ t, e.1 < p ∧ e.2 < p) : bares (t.map tieD) = true := bares_of fun d hd => by
  obtain ⟨e, he, rfl⟩ := List.mem_map.mp hd
  have := h e he
  exact nds_bare (l := [e.1, e.2]) fun n hn => by
    have hb : n ≤ 40 := by
      simp only [List.mem_cons, List.not_mem_nil, or_false] at hn
      rcases hn with rfl | rfl <;> omega
    exact Nat.lt_of_le_of_lt hb (by decide)
theorem ties_depth (t : List (Nat × Nat)) : PyData.depthAll (pys (t.map tieD)) ≤ 1 := depths_of fun d hd => by
  obtain ⟨e, he, rfl⟩ := List.mem_map.mp hd
  have := nds_depth [e.1, e.2]
  show (D.tup (nds [e.1, e.2])).py.depth ≤ 1
  rw [depth_tup]
  omega
theorem ties_wt (t : List (Nat × Nat)) : wts (t.map tieD) ≤ t.length * 3851 := by
  have := wts_of (k := 3849) (l := t.map tieD) fun d hd => by
    obtain ⟨e, he, rfl⟩ := List.mem_map.mp hd
    exact Nat.le_refl _
  rwa [List.length_map] at this
theorem eqv_nat (a b : Nat) : PyData.eqv (nd a).py (nd b).py = decide (a = b) := by
  show PyData.eqv (.int a) (.int b) = _
  rw [eqv_ints, decide_eq_decide]
  omega
theorem eqv_ties : ∀ t s : List (Nat × Nat), PyData.eqvAll (pys (t.map tieD)) (pys (s.map tieD)) = decide (t = s)
  | [], [] => by simp [pys, PyData.eqvAll]
  | [], b :: s => by simp [pys, PyData.eqvAll]
  | a :: t, [] => by simp [pys, PyData.eqvAll]
  | (a, b) :: t, (c, d) :: s => by
    have ih := eqv_ties t s
    have e1 : PyData.eqv (tieD (a, b)).py (tieD (c, d)).py = (decide (a = c) && decide (b = d)) := by
      have h1 := eqv_nat a c
      have h2 := eqv_nat b d
      simp [tieD, D.py, pys, PyData.eqv, PyData.eqvAll, h1, h2]
    simp only [List.map_cons, pys, PyData.eqvAll, e1, ih]
    rw [Bool.eq_iff_iff]
    simp [and_assoc]
theorem deq_ties {p q : Nat} {t s : List (Nat × Nat)} (hp : p ≤ 40) (hq : q ≤ 40) (ht : ∀ e ∈ t, e.1 < p ∧ e.2 < p) (hs : ∀ e ∈ s, e.1 < q ∧ e.2 < q) : deq (tiesD t) (tiesD s) = some (decide (t = s)) := by
  have b1 : (tiesD t).bare = true := by simpa [tiesD, D.bare] using ties_bare hp ht
  have b2 : (tiesD s).bare = true := by simpa [tiesD, D.bare] using ties_bare hq hs
  have d1 : (tiesD t).py.depth ≤ 64 := by
    have := ties_depth t
    rw [tiesD, depth_tup]
    omega
  have d2 : (tiesD s).py.depth ≤ 64 := by
    have := ties_depth s
    rw [tiesD, depth_tup]
    omega
  unfold deq
  rw [lays_bare b1, lays_bare b2, shaped_bare b1 d1, shaped_bare b2 d2]
  have := eqv_ties t s
  simp only [Bool.and_self, if_true]
  refine congrArg some ?_
  simpa [tiesD, D.py, PyData.eqv] using this
theorem web_eq {p q : Nat} {t s : List (Nat × Nat)} (h : Fit p t) (k : Fit q s) : f_Web_eq [webD p t, webD q s] = M.ret (.bl (decide (p = q) && decide (t = s))) := by
  refine f_run rfl ?_
  show exS _ _ s_Web_eq [.val (webD p t), .val (webD q s)] = _
  unfold s_Web_eq
  refine (x_seq (x_if0 (x := .bl false) (v_no (t := true) (v_bi (vs_cons (v_var (d := webD q s) rfl) vs_nil) rfl) rfl) rfl)).trans ?_
  have ep : ev t_Web_init.Phi F (.cmp .eq (.fld (.var 0) "places") (.fld (.var 1) "places")) [.val (webD p t), .val (webD q s)] = .ret (.bl (decide (p = q))) := v_cmp (x := nd p) (y := nd q) (v_fld (v_var rfl) rfl) (v_fld (v_var rfl) rfl) (eq_nat p q)
  have et : ev t_Web_init.Phi F (.cmp .eq (.fld (.var 0) "ties") (.fld (.var 1) "ties")) [.val (webD p t), .val (webD q s)] = .ret (.bl (decide (t = s))) := v_cmp (x := tiesD t) (y := tiesD s) (v_fld (v_var rfl) rfl) (v_fld (v_var rfl) rfl) (deq_ties h.p2 k.p2 h.ends k.ends)
  refine x_seqR (x_ret ?_)
  by_cases e : p = q
  · rw [decide_eq_true e] at ep ⊢
    exact (v_andT ep rfl).trans et
  · rw [decide_eq_false e] at ep ⊢
    exact v_andF ep rfl
theorem web_eq_no {p : Nat} {t : List (Nat × Nat)} {y : D} (hy : y.still = true) (ho : ∀ n l, y ≠ .obj n l) : f_Web_eq [webD p t, y] = M.ret (.bl false) := by
  refine f_run rfl ?_
  show exS _ _ s_Web_eq [.val (webD p t), .val y] = _
  unfold s_Web_eq
  refine x_seqR ((x_iteT (x := .bl true) (v_no (x := .bl false) (t := false) (v_bi (vs_cons (v_var (d := y) rfl) vs_nil) ?_) rfl) rfl).trans (x_seqR (x_ret v_bl)))
  cases y with
  | obj n l => exact absurd rfl (ho n l)
  | lam k => cases hy
  | _ => rfl
end Law
end VC
set_option Elab.async false
set_option linter.all false
set_option maxRecDepth 100000
set_option maxHeartbeats 4000000
set_option exponentiation.threshold 2000
/-! k32: webs drawn, webs near by, ties as they are handed. -/
namespace VC
section
variable {Φ : Fns} {F : Flds} {ρ ρ' : Env} {a b c e r : E} {s u : S} {i j n k m : Nat}
theorem te_callB {f : Nat} {P : List D → Prop} {R : D → Prop} (h1 : Tri n (evs Φ F r ρ) P) (h2 : ∀ ds, P ds → Tri k (Φ f ds) fun d => R d ∧ (d.noL && d.still) = true) : Tri (n + k) (ev Φ F (.callB f r) ρ) R := by
  simp only [ev]
  refine Tri.bind h1 fun ds hd s fs hc => ?_
  obtain ⟨d, s', e, ⟨q, q2⟩, f1, c1⟩ := h2 ds hd s fs hc
  refine ⟨d, s', ?_, q, f1, c1⟩
  unfold M.tame
  rw [e]
  simp only [q2, if_true]
theorem tx_unpack {is : List Nat} {R : Env → Prop} (h : Tri n (ev Φ F e ρ) (fun d => ∃ ds, d = .tup ds ∧ ∃ ρ', setAll ρ is ds = some ρ' ∧ R ρ')) : Tri n (exS Φ F (.unpack is e) ρ) (fun fl => ∃ ρ', fl = .nx ρ' ∧ R ρ') := by
  simp only [exS]
  refine Tri.pure h fun d hd => ?_
  obtain ⟨ds, rfl, ρ', e, q⟩ := hd
  simp only [e, M.of_some, M.bind_ret]
  exact .ret ⟨ρ', rfl, q⟩
theorem x_unpack {is : List Nat} {ds : List D} (h : ev Φ F e ρ = .ret (.tup ds)) (q : setAll ρ is ds = some ρ') : exS Φ F (.unpack is e) ρ = .ret (.nx ρ') := by
  simp only [exS, h, M.bind_ret, q, M.of_some]
theorem v_slHi {xs : List D} (h : ev Φ F a ρ = .ret (.tup xs)) (hk : ev Φ F b ρ = .ret (nd k)) : ev Φ F (.sl a .nil (.cons b .nil)) ρ = .ret (.tup (xs.take k)) := by
  have hb : evo Φ F (.cons b .nil) ρ = .ret (some (k : Int)) := by simp only [evo, hk, M.bind_ret, nd]
  simp only [ev, h, hb, M.bind_ret]
  have hn : evo Φ F .nil ρ = .ret none := by simp only [evo]
  simp only [hn, M.bind_ret]
  show M.ret (D.tup (cutD xs none (some (k : Int)))) = _
  unfold cutD
  rw [HT.sIx_none, HT.sIx_nat, List.drop_zero, Nat.sub_zero]
  congr 2
  rcases Nat.le_total k xs.length with h | h
  · rw [Nat.min_eq_left h]
  · rw [Nat.min_eq_right h, List.take_length, List.take_of_length_le h]
theorem v_slLo {xs : List D} (h : ev Φ F a ρ = .ret (.tup xs)) (hk : ev Φ F b ρ = .ret (nd k)) : ev Φ F (.sl a (.cons b .nil) .nil) ρ = .ret (.tup (xs.drop k)) := by
  have hb : evo Φ F (.cons b .nil) ρ = .ret (some (k : Int)) := by simp only [evo, hk, M.bind_ret, nd]
  have hn : evo Φ F .nil ρ = .ret none := by simp only [evo]
  simp only [ev, h, hb, hn, M.bind_ret]
  show M.ret (D.tup (cutD xs (some (k : Int)) none)) = _
  unfold cutD
  rw [HT.sIx_none, HT.sIx_nat]
  congr 2
  rcases Nat.le_total k xs.length with h | h
  · rw [Nat.min_eq_left h, List.take_of_length_le (by rw [List.length_drop]; omega)]
  · rw [Nat.min_eq_right h, List.drop_length, List.drop_of_length_le h]
    simp
end
theorem add_nat (a b : Nat) : d2 .add (nd a) (nd b) = some (nd (a + b)) := by
  show some (D.int _) = some (D.int _)
  congr 2
theorem sub_nat {a b : Nat} (h : b ≤ a) : d2 .sub (nd a) (nd b) = some (nd (a - b)) := by
  show some (D.int _) = some (D.int _)
  congr 2
  omega
theorem mod_nat {a b : Nat} (h : 0 < b) : d2 .mod (nd a) (nd b) = some (nd (a % b)) := by
  show (if (b : Int) ≠ 0 then some (D.int ((a : Int).fmod (b : Int))) else none) = _
  rw [if_pos (by omega), Int.fmod_eq_emod_of_nonneg _ (by omega)]
  rfl
theorem add_tups {a b : List D} (h : a.length + b.length ≤ 1000000) : d2 .add (.tup a) (.tup b) = some (.tup (a ++ b)) := if_pos h
namespace Law
open PySem PySem.Spec PyProof.Rows L2
open Blk (Mk Lap Lb Adj lab mrg gOf gOf_set gOf_range gOf_eq gOf_ext lab_lb lab_app)
theorem ph__law_pick__law_draw : t__law_draw.Phi 12 = drawF := rfl
theorem ph__law_any_web__law_draw : t__law_pick.Phi 12 = drawF := rfl
theorem ph__law_any_web__law_pick : t__law_pick.Phi 13 = f__law_pick := rfl
theorem ph__law_as_passed__law_draw : t__law_same.Phi 12 = drawF := rfl
theorem ph__law_near__law_draw : t__law_components.Phi 12 = drawF := rfl
theorem pick_tri {l : List D} (h0 : l ≠ []) (hz : l.length < 1000000) : Tri 1 (f__law_pick [.pen, .lst l]) (fun d => d ∈ l) := by
  refine tf_run rfl ?_
  show Tri 1 (exS _ _ s__law_pick [.val .pen, .val (.lst l)]) _
  unfold s__law_pick
  exact tx_seqR (tx_ret (tri_pick ph__law_pick__law_draw h0 hz rfl (.inl rfl)))
theorem lt_nat (a b : Nat) : dcmp .lt (nd a) (nd b) = some (decide (a < b)) := by
  show some (decide ((a : Int) < (b : Int))) = _
  congr 1
  rw [decide_eq_decide]
  omega
theorem ties_app (t : List (Nat × Nat)) (a b : Nat) : t.map tieD ++ [.tup [nd a, nd b]] = (t ++ [(a, b)]).map tieD := by
  rw [List.map_append]
  rfl
/-- 1 + a draw -/
theorem one_draw {Φ : Fns} {ρ : Env} {e : E} {m : Nat} (hf : Φ 12 = drawF) (hp : ρ[0]? = some (.val .pen)) (he : ev Φ F e ρ = .ret (nd m)) (h0 : 0 < m) (h1 : m < 2 ^ 200) : Tri 1 (ev Φ F (.bin .add (.int 1) (.call 12 (.cons (.var 0) (.cons e .nil)))) ρ) (fun d => ∃ p : Nat, d = nd p ∧ 1 ≤ p ∧ p ≤ m) := by
  refine (te_bin (n := 0) (k := 1) (P := fun d => d = nd 1) (Tri.eq v_int rfl) (te_draw hf hp he h0 h1) ?_).mono (by decide) fun _ z => z
  rintro x y rfl ⟨j, hj, rfl⟩
  exact ⟨_, add_nat 1 j, 1 + j, rfl, by omega, by omega⟩
def s_kind : S := (.seq (.ite (.cmp .eq (.var 7) (.int 0)) (.seq (.set 9 (.var 8))
  .skip) (.seq (.ite (.cmp .lt (.var 7) (.int 4)) (.seq (.set 9 (.bin .mod (.bi .int (.cons (.bin .add (.bin .add (.var 8) (.int 1)) (.call 12 (.cons (.var 0) (.cons (.var 4) .nil)))) .nil)) (.var 3)))
  .skip) (.seq (.ite (.and (.cmp .eq (.var 7) (.int 4)) (.cmp .ne (.bor 5) (.lst .nil))) (.seq (.unpack [8, 9] (.callB 13 (.cons (.var 0) (.cons (.bor 5) .nil))))
  .skip) .skip)
  .skip))
  .skip))
  (.seq (.append 5 (.tup (.cons (.var 8) (.cons (.var 9) .nil))))
  .skip))
def s_lap : S := (.seq (.set 7 (.call 12 (.cons (.var 0) (.cons (.int 8) .nil))))
  (.seq (.par [.name 8, .name 9] (.cons (.call 12 (.cons (.var 0) (.cons (.var 3) .nil))) (.cons (.call 12 (.cons (.var 0) (.cons (.var 3) .nil))) .nil)))
  s_kind))
def envW (m k p w : Nat) (t : List (Nat × Nat)) (b6 b7 b8 b9 : SD) : Env := [.val .pen, .val (nd m), .val (nd k), .val (nd p), .val (nd w), .own (t.map tieD), b6, b7, b8, b9]
theorem kind_tri {m k p w kd a b : Nat} {t : List (Nat × Nat)} {b6 : SD} (hp : 1 ≤ p) (hp4 : p ≤ 40) (hw : 1 ≤ w) (hw4 : w ≤ 40) (ht : ∀ e ∈ t, e.1 < p ∧ e.2 < p) (hl : t.length ≤ 60) (ha : a < p) (hb : b < p) :
    Tri 1 (exS t__law_pick.Phi F s_kind (envW m k p w t b6 (.val (nd kd)) (.val (nd a)) (.val (nd b)))) (fun fl => ∃ ρ', fl = .nx ρ' ∧ ∃ a' b' b7 b8 b9, a' < p ∧ b' < p ∧ ρ' = envW m k p w (t ++ [(a', b')]) b6 b7 b8 b9) := by
  unfold s_kind
  refine tx_then (n := 1) (k := 0) (P := fun ρ' => ∃ a' b', a' < p ∧ b' < p ∧ ρ' = envW m k p w t b6 (.val (nd kd)) (.val (nd a')) (.val (nd b'))) ?_ (by decide) ?_
  · have e0 : ev t__law_pick.Phi F (.cmp .eq (.var 7) (.int 0)) (envW m k p w t b6 (.val (nd kd)) (.val (nd a)) (.val (nd b))) = .ret (.bl (decide (kd = 0))) := v_cmp (y := nd 0) (v_var rfl) v_int (eq_nat _ _)
    have e1 : ev t__law_pick.Phi F (.cmp .lt (.var 7) (.int 4)) (envW m k p w t b6 (.val (nd kd)) (.val (nd a)) (.val (nd b))) = .ret (.bl (decide (kd < 4))) := v_cmp (y := nd 4) (v_var rfl) v_int (lt_nat _ _)
    have e2 : ev t__law_pick.Phi F (.cmp .eq (.var 7) (.int 4)) (envW m k p w t b6 (.val (nd kd)) (.val (nd a)) (.val (nd b))) = .ret (.bl (decide (kd = 4))) := v_cmp (y := nd 4) (v_var rfl) v_int (eq_nat _ _)
    have e3 : ev t__law_pick.Phi F (.cmp .ne (.bor 5) (.lst .nil)) (envW m k p w t b6 (.val (nd kd)) (.val (nd a)) (.val (nd b))) = .ret (.bl (!(t.map tieD).isEmpty)) := v_cmp (x := .lst (t.map tieD)) (v_bor rfl) (v_lst vs_nil) (by
      show (deq _ _).map (!·) = _
      rw [deq_nil (ties_bare hp4 ht) (Nat.le_trans (ties_depth t) (by decide))]
      rfl)
    have skip : Tri 1 (M.ret (Flow.nx (envW m k p w t b6 (.val (nd kd)) (.val (nd a)) (.val (nd b))))) (fun fl => ∃ ρ', fl = .nx ρ' ∧ ∃ a' b', a' < p ∧ b' < p ∧ ρ' = envW m k p w t b6 (.val (nd kd)) (.val (nd a')) (.val (nd b'))) := Tri.ret ⟨_, rfl, a, b, ha, hb, rfl⟩
    by_cases h0 : kd = 0
    · rw [decide_eq_true h0] at e0
      rw [x_iteT e0 rfl, x_seq (x_set (v_var (d := nd a) rfl)), x_skip]
      exact Tri.ret ⟨_, rfl, a, a, ha, ha, rfl⟩
    rw [decide_eq_false h0] at e0
    rw [x_iteF e0 rfl]
    by_cases h1 : kd < 4
    · rw [decide_eq_true h1] at e1
      refine tx_seq1 ?_
      rw [x_iteT e1 rfl]
      refine tx_seq1 ((tx_set (n := 1) (P := fun d => ∃ b' : Nat, d = nd b' ∧ b' < p) ?_).mono (Nat.le_refl _) ?_)
      · refine (te_bin (n := 1) (k := 0) (P := fun d => ∃ x : Nat, d = nd x) (Q := fun d => d = nd p) (te_bi (P := fun ds => ∃ x : Nat, ds = [nd x]) ((ts_cons (n := 1) (k := 0) (P := fun d => ∃ x : Nat, d = nd x) ((te_bin (n := 0) (k := 1) (P := fun d => d = nd (a + 1)) (Tri.eq (v_bin (x := nd a) (y := nd 1) (v_var rfl) v_int (add_nat a 1)) rfl) (te_draw (k := w) ph__law_any_web__law_draw rfl (v_var rfl) (by omega) (by omega)) ?_).mono (by decide) fun _ z => z) ts_nil).mono (by decide) ?_) ?_) (Tri.eq (v_var rfl) rfl) ?_).mono (by decide) fun _ z => z
        · rintro x y rfl ⟨j, hj, rfl⟩
          exact ⟨_, add_nat _ _, _, rfl⟩
        · rintro ds ⟨x, xs, rfl, ⟨z, rfl⟩, rfl⟩
          exact ⟨z, rfl⟩
        · rintro ds ⟨z, rfl⟩
          exact ⟨nd z, rfl, z, rfl⟩
        · rintro x y ⟨z, rfl⟩ rfl
          exact ⟨_, mod_nat (by omega), z % p, rfl, Nat.mod_lt _ (by omega)⟩
      · rintro fl ⟨ρ', rfl, d, rfl, b', rfl, hb'⟩
        exact ⟨_, rfl, a, b', ha, hb', rfl⟩
    · rw [decide_eq_false h1] at e1
      refine tx_seq1 ?_
      rw [x_iteF e1 rfl]
      refine tx_seq1 ?_
      by_cases h2 : kd = 4
      · rw [decide_eq_true h2] at e2
        cases hn : t.map tieD with
        | nil =>
          rw [hn] at e3
          rw [x_if0 ((v_andT e2 rfl).trans e3) rfl]
          exact skip
        | cons z zs =>
          rw [hn] at e3
          rw [x_iteT ((v_andT e2 rfl).trans e3) rfl]
          refine tx_seq1 (tx_unpack (R := fun ρ' => ∃ a' b', a' < p ∧ b' < p ∧ ρ' = envW m k p w t b6 (.val (nd kd)) (.val (nd a')) (.val (nd b'))) ?_)
          refine (te_callB (n := 0) (k := 1) (P := fun ds => ds = [.pen, .lst (t.map tieD)]) (Tri.eq (vs_cons (v_var rfl) (vs_cons (v_bor rfl) vs_nil)) rfl) ?_).mono (by decide) fun _ z => z
          rintro ds rfl
          rw [ph__law_any_web__law_pick]
          refine (pick_tri (by rw [hn]; simp) (by rw [List.length_map]; omega)).mono (Nat.le_refl _) fun d hd => ?_
          obtain ⟨e, he, rfl⟩ := List.mem_map.mp hd
          have := ht e he
          exact ⟨⟨_, rfl, _, rfl, e.1, e.2, this.1, this.2, rfl⟩, rfl⟩
      · rw [decide_eq_false h2] at e2
        rw [x_if0 (v_andF e2 rfl) rfl]
        exact skip
  · rintro ρ' ⟨a', b', ha', hb', rfl⟩
    refine tx_seq1 (Tri.eq (x_append (l := t.map tieD) (d := .tup [nd a', nd b']) rfl (v_tup (vs_cons (v_var rfl) (vs_cons (v_var rfl) vs_nil))) (by rw [List.length_map]; omega)) ⟨_, rfl, a', b', .val (nd kd), .val (nd a'), .val (nd b'), ha', hb', ?_⟩)
    rw [ties_app]
    rfl
theorem lap_tri {m k p w : Nat} {t : List (Nat × Nat)} {b6 b7 b8 b9 : SD} (hp : 1 ≤ p) (hp4 : p ≤ 40) (hw : 1 ≤ w) (hw4 : w ≤ 40) (ht : ∀ e ∈ t, e.1 < p ∧ e.2 < p) (hl : t.length ≤ 60) :
    Tri 4 (exS t__law_pick.Phi F s_lap (envW m k p w t b6 b7 b8 b9)) (fun fl => ∃ ρ', fl = .nx ρ' ∧ ∃ a' b' b7 b8 b9, a' < p ∧ b' < p ∧ ρ' = envW m k p w (t ++ [(a', b')]) b6 b7 b8 b9) := by
  unfold s_lap
  refine tx_then (n := 1) (k := 3) (tx_set (te_draw (k := 8) ph__law_any_web__law_draw rfl v_int (by decide) (by decide))) (by decide) ?_
  rintro ρ' ⟨d, rfl, kd, _, rfl⟩
  refine tx_then (n := 2) (k := 1) (P := fun ρ' => ∃ a b, a < p ∧ b < p ∧ ρ' = envW m k p w t b6 (.val (nd kd)) (.val (nd a)) (.val (nd b))) (tx_par (P := fun ds => ∃ a b, a < p ∧ b < p ∧ ds = [nd a, nd b]) ((ts_cons (n := 1) (k := 1) (te_draw (k := p) ph__law_any_web__law_draw rfl (v_var rfl) (by omega) (by omega)) ((ts_cons (n := 1) (k := 0) (te_draw (k := p) ph__law_any_web__law_draw rfl (v_var rfl) (by omega) (by omega)) ts_nil).mono (by decide) fun _ z => z)).mono (by decide) ?_) ?_) (by decide) ?_
  · rintro ds ⟨x, xs, rfl, ⟨a, ha, rfl⟩, y, ys, rfl, ⟨b, hb, rfl⟩, rfl⟩
    exact ⟨a, b, ha, hb, rfl⟩
  · rintro ds ⟨a, b, ha, hb, rfl⟩
    exact ⟨_, rfl, a, b, ha, hb, rfl⟩
  · rintro ρ' ⟨a, b, ha, hb, rfl⟩
    exact kind_tri hp hp4 hw hw4 ht hl ha hb
theorem any_web_tri {m k : Nat} (hm : 1 ≤ m) (hm4 : m ≤ 40) (hk : k ≤ 60) : Tri 300 (f__law_any_web [.pen, nd m, nd k]) (fun d => ∃ p t, d = .tup [nd p, tiesD t] ∧ Fit p t ∧ p ≤ m) := by
  refine tf_run rfl ?_
  show Tri 300 (exS _ _ s__law_any_web [.val .pen, .val (nd m), .val (nd k), .no, .no, .no, .no, .no, .no, .no]) _
  show Tri 300 (exS _ _ (.seq (.set 3 (.bin .add (.int 1) (.call 12 (.cons (.var 0) (.cons (.var 1) .nil))))) (.seq (.set 4 (.bin .add (.int 1) (.call 12 (.cons (.var 0) (.cons (.var 3) .nil))))) (.seq (.own 5 (.lst .nil)) (.seq (.for (.name 6) .range (.cons (.call 12 (.cons (.var 0) (.cons (.bin .add (.var 2) (.int 1)) .nil))) .nil) s_lap) (.seq (.ret (.tup (.cons (.var 3) (.cons (.bi .tuple (.cons (.bor 5) .nil)) .nil)))) .skip))))) _) _
  refine tx_then (n := 1) (k := 299) (tx_set (one_draw ph__law_any_web__law_draw rfl (v_var rfl) hm (by omega))) (by decide) ?_
  rintro ρ' ⟨d, rfl, p, rfl, hp, hpm⟩
  refine tx_then (n := 1) (k := 298) (tx_set (one_draw ph__law_any_web__law_draw rfl (v_var rfl) hp (by omega))) (by decide) ?_
  rintro ρ' ⟨d, rfl, w, rfl, hw, hwp⟩
  refine tx_skipTo (x_own (v_lst vs_nil)) ?_
  show Tri 298 (exS _ _ _ (envW m k p w [] .no .no .no .no)) _
  refine tx_then (n := 1 + 4 * 60) (k := 0) (tx_for (k := 4) (fun j ρ => ∃ t b6 b7 b8 b9, ρ = envW m k p w t b6 b7 b8 b9 ∧ t.length = j ∧ ∀ e ∈ t, e.1 < p ∧ e.2 < p) 60 (P := fun ds => ∃ n : Nat, n ≤ k ∧ ds = [nd n]) ((ts_cons (n := 1) (k := 0) (te_draw (k := k + 1) ph__law_any_web__law_draw rfl (v_bin (x := nd k) (y := nd 1) (v_var rfl) v_int (add_nat k 1)) (by omega) (by omega)) ts_nil).mono (by decide) ?_) ?_) (by decide) ?_
  · rintro ds ⟨x, xs, rfl, ⟨n, hn, rfl⟩, rfl⟩
    exact ⟨n, by omega, rfl⟩
  · rintro ds ⟨n, hn, rfl⟩
    refine ⟨_, range_items (by omega), by rw [nds, List.length_map, List.length_range]; omega, ⟨[], _, _, _, _, rfl, rfl, fun e h => (nomatch h)⟩, ?_⟩
    rintro j d σ hd ⟨t, b6, b7, b8, b9, rfl, hl, ht⟩
    have hj : j < n := by
      have := (List.getElem?_eq_some_iff.mp hd).1
      rwa [nds, List.length_map, List.length_range] at this
    refine ⟨_, rfl, (lap_tri (b6 := .val d) hp (by omega) hw (by omega) ht (by omega)).mono (Nat.le_refl _) ?_⟩
    rintro fl ⟨ρ', rfl, a, b, c7, c8, c9, ha, hb, rfl⟩
    refine ⟨_, .inl rfl, _, _, _, _, _, rfl, by rw [List.length_append, hl]; rfl, fun e he => ?_⟩
    rcases List.mem_append.mp he with he | he
    · exact ht e he
    · cases List.mem_singleton.mp he
      exact ⟨ha, hb⟩
  · rintro ρ' ⟨ds, l, ⟨n, hn, rfl⟩, hi, t, b6, b7, b8, b9, rfl, hl, ht⟩
    rw [range_items (by omega)] at hi
    cases hi
    rw [nds, List.length_map, List.length_range] at hl
    refine tx_seqR (tx_ret (Tri.eq (v_tup (vs_cons (v_var rfl) (vs_cons (v_bi (vs_cons (v_bor rfl) vs_nil) rfl) vs_nil))) ⟨p, t, rfl, ⟨hp, by omega, by omega, ht⟩, hpm⟩))
end Law
end VC
set_option Elab.async false
set_option linter.all false
set_option maxRecDepth 100000
set_option maxHeartbeats 4000000
set_option exponentiation.threshold 2000
/-! k32: webs near by, ties as they are handed. -/
namespace VC
namespace Law
open PySem PySem.Spec PyProof.Rows L2
theorem swap_ne {t : List (Nat × Nat)} {k : Nat} {e x : Nat × Nat} (h : t[k]? = some e) (ne : x ≠ e) : t.take k ++ [x] ++ t.drop (k + 1) ≠ t := fun he => by
  have hk := (List.getElem?_eq_some_iff.mp h).1
  have := congrArg (·[k]?) he
  simp only [h] at this
  rw [List.append_assoc, List.getElem?_append_right (by rw [List.length_take]; omega), List.length_take, Nat.min_eq_left (by omega), Nat.sub_self] at this
  exact ne (Option.some.inj this)
theorem cut_fit {p k : Nat} {t : List (Nat × Nat)} {l : List (Nat × Nat)} (h : Fit p t) (hl : l.length ≤ 1) (hx : ∀ x ∈ l, x.1 < p ∧ x.2 < p) (hk : k < t.length) : Fit p (t.take k ++ l ++ t.drop (k + 1)) := by
  refine ⟨h.p1, h.p2, ?_, fun e he => ?_⟩
  · have := h.len
    simp only [List.length_append, List.length_take, List.length_drop]
    omega
  · rcases List.mem_append.mp he with he | he
    · rcases List.mem_append.mp he with he | he
      · exact h.ends e (List.mem_of_mem_take he)
      · exact hx e he
    · exact h.ends e (List.mem_of_mem_drop he)
theorem ties_len (t : List (Nat × Nat)) : dbi .len [tiesD t] = some (nd t.length) := by
  rw [len_items (d := tiesD t) rfl, List.length_map]
theorem ties_at {t : List (Nat × Nat)} {k : Nat} {e : Nat × Nat} (h : t[k]? = some e) : dix (tiesD t) (nd k) = some (tieD e) := dix_tup (by rw [List.getElem?_map, h]; rfl)
def envN (p : Nat) (t : List (Nat × Nat)) (w : Nat) (b4 b5 b6 b7 : SD) : Env := [.val .pen, .val (nd p), .val (tiesD t), .val (nd w), b4, b5, b6, b7]
theorem near_tri {p : Nat} {t : List (Nat × Nat)} (h : Fit p t) : Tri 2 (f__law_near [.pen, nd p, tiesD t]) (fun d => ∃ q s, d = .tup [nd q, tiesD s] ∧ Fit q s ∧ (decide (p = q) && decide (t = s)) = false) := by
  have hp := h.p1
  have hp4 := h.p2
  have ht := h.len
  have no_q : ∀ {q : Nat} {s : List (Nat × Nat)}, p ≠ q → (decide (p = q) && decide (t = s)) = false := fun e => by rw [decide_eq_false e]; rfl
  have no_t : ∀ {q : Nat} {s : List (Nat × Nat)}, s ≠ t → (decide (p = q) && decide (t = s)) = false := fun e => by rw [decide_eq_false (Ne.symm e), Bool.and_false]
  refine tf_run rfl ?_
  show Tri 2 (exS _ _ s__law_near [.val .pen, .val (nd p), .val (tiesD t), .no, .no, .no, .no, .no]) _
  unfold s__law_near
  refine tx_then (n := 1) (k := 1) (tx_set (te_draw (k := 4) ph__law_near__law_draw rfl v_int (by decide) (by decide))) (by decide) ?_
  rintro ρ' ⟨d, rfl, w, _, rfl⟩
  show Tri 1 (exS _ _ _ (envN p t w .no .no .no .no)) _
  have ew : ∀ {j : Nat}, ev t__law_components.Phi F (.cmp .eq (.var 3) (.int (j : Nat))) (envN p t w .no .no .no .no) = .ret (.bl (decide (w = j))) := fun {j} => v_cmp (y := nd j) (v_var rfl) v_int (eq_nat _ _)
  have en : ev t__law_components.Phi F (.cmp .eq (.var 2) (.tup .nil)) (envN p t w .no .no .no .no) = .ret (.bl (decide (t = []))) := v_cmp (y := tiesD []) (v_var rfl) (v_tup vs_nil) (deq_ties hp4 (q := 1) (by decide) h.ends fun e he => (nomatch he))
  have e1 : ev t__law_components.Phi F (.or (.cmp .eq (.var 3) (.int 0)) (.cmp .eq (.var 2) (.tup .nil))) (envN p t w .no .no .no .no) = .ret (.bl (decide (w = 0) || decide (t = []))) := by
    have e0 := ew (j := 0)
    by_cases h0 : w = 0
    · rw [decide_eq_true h0] at e0 ⊢
      exact v_orT e0 rfl
    · rw [decide_eq_false h0] at e0 ⊢
      exact (v_orF e0 rfl).trans en
  by_cases hA : (decide (w = 0) || decide (t = [])) = true
  · rw [hA] at e1
    by_cases hq : p < 40
    · refine Tri.eq (x_seqR ((x_iteT e1 rfl).trans (x_seqR (x_ret ((v_iteT (x := .bl true) (v_cmp (x := nd p) (y := nd 40) (v_var rfl) v_int ((lt_nat p 40).trans (by rw [decide_eq_true hq]))) rfl).trans (v_tup (vs_cons (v_bin (x := nd p) (y := nd 1) (v_var rfl) v_int (add_nat p 1)) (vs_cons (v_var (d := tiesD t) rfl) vs_nil)))))))) ⟨_, rfl, p + 1, t, rfl, ⟨by omega, by omega, h.len, fun e he => ?_⟩, no_q (by omega)⟩
      have := h.ends e he
      exact ⟨by omega, by omega⟩
    · have e2 : ev t__law_components.Phi F (.cmp .lt (.var 1) (.int 40)) (envN p t w .no .no .no .no) = .ret (.bl false) := v_cmp (x := nd p) (y := nd 40) (v_var rfl) v_int ((lt_nat p 40).trans (by rw [decide_eq_false hq]))
      have e3 : ev t__law_components.Phi F (.cmp .lt (.bi .len (.cons (.var 2) .nil)) (.int 60)) (envN p t w .no .no .no .no) = .ret (.bl (decide (t.length < 60))) := v_cmp (y := nd 60) (v_bi (vs_cons (v_var rfl) vs_nil) (ties_len t)) v_int (lt_nat _ _)
      by_cases hl : t.length < 60
      · rw [decide_eq_true hl] at e3
        refine Tri.eq (x_seqR ((x_iteT e1 rfl).trans (x_seqR (x_ret ((v_iteF e2 rfl).trans (v_tup (vs_cons (v_var (d := nd p) rfl) (vs_cons ((v_iteT e3 rfl).trans (v_bin (v_var (d := tiesD t) rfl) (v_tup (vs_cons (v_tup (vs_cons v_int (vs_cons v_int vs_nil))) vs_nil)) (add_tups (by rw [List.length_map]; simp only [List.length_cons, List.length_nil]; omega)))) vs_nil)))))))) ⟨_, rfl, p, t ++ [(0, 0)], ?_, ⟨hp, hp4, by rw [List.length_append]; simp only [List.length_cons, List.length_nil]; omega, fun e he => ?_⟩, no_t fun e => ?_⟩
        · rw [tiesD, ← ties_app]
          rfl
        · rcases List.mem_append.mp he with he | he
          · exact h.ends e he
          · cases List.mem_singleton.mp he
            exact ⟨by omega, by omega⟩
        · have := congrArg List.length e
          simp at this
      · rw [decide_eq_false hl] at e3
        refine Tri.eq (x_seqR ((x_iteT e1 rfl).trans (x_seqR (x_ret ((v_iteF e2 rfl).trans (v_tup (vs_cons (v_var (d := nd p) rfl) (vs_cons ((v_iteF e3 rfl).trans (v_slLo (k := 1) (v_var (d := tiesD t) rfl) v_int)) vs_nil)))))))) ⟨_, rfl, p, t.drop 1, ?_, ⟨hp, hp4, by rw [List.length_drop]; omega, fun e he => h.ends e (List.mem_of_mem_drop he)⟩, no_t fun e => ?_⟩
        · rw [tiesD, List.map_drop]
        · have := congrArg List.length e
          rw [List.length_drop] at this
          omega
  have hA : (decide (w = 0) || decide (t = [])) = false := by simpa using hA
  rw [hA] at e1
  have hne : t ≠ [] := fun e => by
    rw [decide_eq_true e] at hA
    simp at hA
  have hlen : 0 < t.length := List.length_pos_iff.mpr hne
  refine tx_skipTo (x_if0 e1 rfl) ?_
  have e2 := ew (j := 1)
  by_cases hB : w = 1
  · rw [decide_eq_true hB] at e2
    refine Tri.eq (x_seqR ((x_iteT e2 rfl).trans (x_seqR (x_ret (v_tup (vs_cons (v_var (d := nd p) rfl) (vs_cons (v_slHi (k := t.length - 1) (v_var (d := tiesD t) rfl) (v_bin (x := nd t.length) (y := nd 1) (v_bi (vs_cons (v_var rfl) vs_nil) (ties_len t)) v_int (sub_nat (by omega)))) vs_nil))))))) ⟨_, rfl, p, t.take (t.length - 1), ?_, ⟨hp, hp4, by rw [List.length_take]; omega, fun e he => h.ends e (List.mem_of_mem_take he)⟩, no_t fun e => ?_⟩
    · rw [tiesD, List.map_take]
    · have := congrArg List.length e
      rw [List.length_take] at this
      omega
  rw [decide_eq_false hB] at e2
  refine tx_skipTo (x_if0 e2 rfl) ?_
  refine tx_then (n := 1) (k := 0) (tx_set (te_draw (k := t.length) ph__law_near__law_draw rfl (v_bi (vs_cons (v_var rfl) vs_nil) (ties_len t)) hlen (by omega))) (by decide) ?_
  rintro ρ' ⟨d, rfl, k, hk, rfl⟩
  show Tri 0 (exS _ _ _ (envN p t w (.val (nd k)) .no .no .no)) _
  have hx := List.getElem?_eq_getElem hk
  generalize t[k] = e at hx
  obtain ⟨a, b⟩ := e
  have hab := h.ends _ (List.mem_of_getElem? hx)
  have hab1 : a < p := hab.1
  have hab2 : b < p := hab.2
  refine tx_skipTo (x_unpack (ds := [nd a, nd b]) (v_ix (v_var rfl) (v_var rfl) (ties_at hx)) rfl) ?_
  show Tri 0 (exS _ _ _ (envN p t w (.val (nd k)) (.val (nd a)) (.val (nd b)) .no)) _
  have sl1 : ∀ {b7 : SD}, ev t__law_components.Phi F (.sl (.var 2) .nil (.cons (.var 4) .nil)) (envN p t w (.val (nd k)) (.val (nd a)) (.val (nd b)) b7) = .ret (.tup ((t.map tieD).take k)) := v_slHi (v_var (d := tiesD t) rfl) (v_var rfl)
  have sl2 : ∀ {b7 : SD}, ev t__law_components.Phi F (.sl (.var 2) (.cons (.bin .add (.var 4) (.int 1)) .nil) .nil) (envN p t w (.val (nd k)) (.val (nd a)) (.val (nd b)) b7) = .ret (.tup ((t.map tieD).drop (k + 1))) := v_slLo (v_var (d := tiesD t) rfl) (v_bin (x := nd k) (y := nd 1) (v_var rfl) v_int (add_nat k 1))
  have whole : ∀ x : Nat × Nat, D.tup [nd p, .tup ((t.map tieD).take k ++ [tieD x] ++ (t.map tieD).drop (k + 1))] = .tup [nd p, tiesD (t.take k ++ [x] ++ t.drop (k + 1))] := fun x => by
    rw [tiesD, List.map_append, List.map_append, List.map_take, List.map_drop]
    rfl
  have ec : ev t__law_components.Phi F (.and (.cmp .eq (.var 3) (.int 2)) (.cmp .ne (.var 5) (.var 6))) (envN p t w (.val (nd k)) (.val (nd a)) (.val (nd b)) .no) = .ret (.bl (decide (w = 2) && !decide (a = b))) := by
    have e3 : ev t__law_components.Phi F (.cmp .eq (.var 3) (.int 2)) (envN p t w (.val (nd k)) (.val (nd a)) (.val (nd b)) .no) = .ret (.bl (decide (w = 2))) := v_cmp (y := nd 2) (v_var rfl) v_int (eq_nat _ _)
    by_cases h2 : w = 2
    · rw [decide_eq_true h2] at e3 ⊢
      exact (v_andT e3 rfl).trans (v_cmp (v_var rfl) (v_var rfl) (ne_nat _ _))
    · rw [decide_eq_false h2] at e3 ⊢
      exact v_andF e3 rfl
  have len1 : ((t.map tieD).take k).length ≤ 60 := by
    rw [List.length_take, List.length_map]
    omega
  have len2 : ((t.map tieD).drop (k + 1)).length ≤ 60 := by
    rw [List.length_drop, List.length_map]
    omega
  have len3 : ∀ x : D, ((t.map tieD).take k ++ [x]).length ≤ 61 := fun x => by
    rw [List.length_append, List.length_take, List.length_map]
    simp only [List.length_cons, List.length_nil]
    omega
  by_cases hC : (decide (w = 2) && !decide (a = b)) = true
  · rw [hC] at ec
    have hnab : a ≠ b := fun e => by
      rw [decide_eq_true e] at hC
      simp at hC
    refine Tri.eq (x_seqR ((x_iteT ec rfl).trans (x_seqR (x_ret (v_tup (vs_cons (v_var (d := nd p) rfl) (vs_cons (v_bin (v_bin sl1 (v_tup (vs_cons (v_tup (vs_cons (v_var (d := nd b) rfl) (vs_cons (v_var (d := nd a) rfl) vs_nil))) vs_nil)) (add_tups ?_)) sl2 (add_tups ?_)) vs_nil))))))) ⟨_, rfl, p, t.take k ++ [(b, a)] ++ t.drop (k + 1), whole (b, a), cut_fit h (by simp) (fun x hx => ?_) hk, no_t (swap_ne hx fun e => ?_)⟩
    · simp only [List.length_cons, List.length_nil]
      omega
    · have := len3 (.tup [nd b, nd a])
      omega
    · cases List.mem_singleton.mp hx
      exact ⟨hab2, hab1⟩
    · cases e
      exact hnab rfl
  have hC : (decide (w = 2) && !decide (a = b)) = false := by simpa using hC
  rw [hC] at ec
  refine tx_skipTo (x_if0 ec rfl) ?_
  by_cases hp1 : 1 < p
  · have e7 : ev t__law_components.Phi F (.ite (.cmp .gt (.var 1) (.int 1)) (.tup (.cons (.var 5) (.cons (.bin .mod (.bi .int (.cons (.bin .add (.var 6) (.int 1)) .nil)) (.var 1)) .nil))) .non) (envN p t w (.val (nd k)) (.val (nd a)) (.val (nd b)) .no) = .ret (tieD (a, (b + 1) % p)) :=
      (v_iteT (x := .bl true) (v_cmp (x := nd p) (y := nd 1) (v_var rfl) v_int ((lt_nat 1 p).trans (by rw [decide_eq_true hp1]))) rfl).trans (v_tup (vs_cons (v_var rfl) (vs_cons (v_bin (x := nd (b + 1)) (y := nd p) (v_bi (ds := [nd (b + 1)]) (vs_cons (v_bin (x := nd b) (y := nd 1) (v_var rfl) v_int (add_nat b 1)) vs_nil) rfl) (v_var rfl) (mod_nat (by omega))) vs_nil)))
    refine tx_skipTo (x_set e7) ?_
    show Tri 0 (exS _ _ _ (envN p t w (.val (nd k)) (.val (nd a)) (.val (nd b)) (.val (tieD (a, (b + 1) % p))))) _
    refine Tri.eq (x_seqR (x_ret ((v_iteF (x := .bl false) (v_cmp (x := tieD (a, (b + 1) % p)) (y := .non) (v_var rfl) v_non rfl) rfl).trans (v_tup (vs_cons (v_var (d := nd p) rfl) (vs_cons (v_bin (v_bin sl1 (v_tup (vs_cons (v_var (d := tieD (a, (b + 1) % p)) rfl) vs_nil)) (add_tups ?_)) sl2 (add_tups ?_)) vs_nil)))))) ⟨_, rfl, p, t.take k ++ [(a, (b + 1) % p)] ++ t.drop (k + 1), whole _, cut_fit h (by simp) (fun x hx => ?_) hk, no_t (swap_ne hx fun e => ?_)⟩
    · simp only [List.length_cons, List.length_nil]
      omega
    · have := len3 (tieD (a, (b + 1) % p))
      omega
    · cases List.mem_singleton.mp hx
      exact ⟨hab1, Nat.mod_lt _ (by omega)⟩
    · have e := congrArg Prod.snd e
      have e : (b + 1) % p = b := e
      by_cases hb : b + 1 = p
      · rw [hb, Nat.mod_self] at e
        omega
      · rw [Nat.mod_eq_of_lt (by omega)] at e
        omega
  · have e7 : ev t__law_components.Phi F (.ite (.cmp .gt (.var 1) (.int 1)) (.tup (.cons (.var 5) (.cons (.bin .mod (.bi .int (.cons (.bin .add (.var 6) (.int 1)) .nil)) (.var 1)) .nil))) .non) (envN p t w (.val (nd k)) (.val (nd a)) (.val (nd b)) .no) = .ret .non :=
      (v_iteF (x := .bl false) (v_cmp (x := nd p) (y := nd 1) (v_var rfl) v_int ((lt_nat 1 p).trans (by rw [decide_eq_false hp1]))) rfl).trans v_non
    refine tx_skipTo (x_set e7) ?_
    show Tri 0 (exS _ _ _ (envN p t w (.val (nd k)) (.val (nd a)) (.val (nd b)) (.val .non))) _
    refine Tri.eq (x_seqR (x_ret ((v_iteT (x := .bl true) (v_cmp (x := .non) (y := .non) (v_var rfl) v_non rfl) rfl).trans (v_tup (vs_cons (v_var (d := nd p) rfl) (vs_cons (v_bin sl1 sl2 (add_tups (by omega))) vs_nil)))))) ⟨_, rfl, p, t.take k ++ [] ++ t.drop (k + 1), ?_, cut_fit h (by simp) (fun x hx => (nomatch hx)) hk, no_t fun e => ?_⟩
    · rw [tiesD, List.append_nil, List.map_append, List.map_take, List.map_drop]
    · have := congrArg List.length e
      simp only [List.length_append, List.length_take, List.length_drop, List.length_nil] at this
      omega
/-! ### ties as they are handed -/
structure Handed (t : List (Nat × Nat)) (d : D) : Prop where
  still : d.still = true
  row : ∃ f : Nat × Nat → D, items? d = some (t.map f) ∧ ∀ e, items? (f e) = some [nd e.1, nd e.2]
  kind : (∃ l, d = .lst l) ∨ ∃ l, d = .tup l
def lisD (e : Nat × Nat) : D := .lst [nd e.1, nd e.2]
theorem pairs_still {t : List (Nat × Nat)} {f : Nat × Nat → D} (h : ∀ e, (f e).still = true) : stills (t.map f) = true := by
  induction t with
  | nil => rfl
  | cons a t ih => simp only [List.map_cons, stills, h a, ih, Bool.and_self]
theorem Handed.tup (t : List (Nat × Nat)) : Handed t (tiesD t) := ⟨pairs_still (f := tieD) fun _ => rfl, ⟨tieD, rfl, fun _ => rfl⟩, .inr ⟨_, rfl⟩⟩
theorem Handed.lists (t : List (Nat × Nat)) : Handed t (.lst (t.map lisD)) := ⟨pairs_still (f := lisD) fun _ => rfl, ⟨lisD, rfl, fun _ => rfl⟩, .inl ⟨_, rfl⟩⟩
theorem Handed.mixed (t : List (Nat × Nat)) : Handed t (.tup (t.map lisD)) := ⟨pairs_still (f := lisD) fun _ => rfl, ⟨lisD, rfl, fun _ => rfl⟩, .inr ⟨_, rfl⟩⟩
theorem Handed.web {p : Nat} {t : List (Nat × Nat)} {d : D} (h : Handed t d) (ft : Fit p t) : f_Web_init [nd p, d] = M.ret (webD p t) := by
  obtain ⟨f, h1, h2⟩ := h.row
  exact init_eq ft h.still h1 h2
theorem passed_tri {t : List (Nat × Nat)} : Tri 1 (f__law_as_passed [.pen, tiesD t]) (Handed t) := by
  show Tri 1 (defF 2 t__law_same.Phi F (passS pe1 pe2 pe4 pe5 pe6) 4 [.pen, tiesD t]) _
  refine tf_run rfl ?_
  show Tri 1 (exS _ _ (passS pe1 pe2 pe4 pe5 pe6) [.val .pen, .val (tiesD t), .no, .no]) _
  unfold passS
  refine tx_then (n := 1) (k := 0) (tx_set (te_draw (k := 3) ph__law_as_passed__law_draw rfl v_int (by decide) (by decide))) (by decide) fun ρ' h => ?_
  obtain ⟨d, rfl, i, _, rfl⟩ := h
  show Tri 0 (exS _ _ _ [.val .pen, .val (tiesD t), .val (nd i), .no]) _
  have e0 : ev t__law_same.Phi F pe2 [.val .pen, .val (tiesD t), .val (nd i), .no] = .ret (.bl (decide (i = 0))) := v_cmp (y := nd 0) (v_var rfl) v_int (eq_nat _ _)
  have e1 : ev t__law_same.Phi F pe4 [.val .pen, .val (tiesD t), .val (nd i), .no] = .ret (.bl (decide (i = 1))) := v_cmp (y := nd 1) (v_var rfl) v_int (eq_nat _ _)
  have ec : ev t__law_same.Phi F pe5 [.val .pen, .val (tiesD t), .val (nd i), .no] = .ret (.lst (t.map lisD)) :=
    v_compB (l := t) tieD lisD (vs_cons (v_var rfl) vs_nil) rfl fun r _ => ⟨_, rfl, v_bi (vs_cons (v_var rfl) vs_nil) rfl⟩
  by_cases h0 : i = 0
  · rw [decide_eq_true h0] at e0
    exact Tri.eq (x_seqR ((x_iteT e0 rfl).trans (x_seqR (x_ret (v_var rfl))))) ⟨_, rfl, .tup t⟩
  · rw [decide_eq_false h0] at e0
    by_cases h1 : i = 1
    · rw [decide_eq_true h1] at e1
      exact Tri.eq ((x_seq (x_if0 e0 rfl)).trans (x_seqR (x_ret ((v_iteT e1 rfl).trans ec)))) ⟨_, rfl, .lists t⟩
    · rw [decide_eq_false h1] at e1
      exact Tri.eq ((x_seq (x_if0 e0 rfl)).trans (x_seqR (x_ret ((v_iteF e1 rfl).trans (v_bi (d := .tup (t.map lisD)) (vs_cons ec vs_nil) rfl))))) ⟨_, rfl, .mixed t⟩
end Law
end VC
set_option Elab.async false
set_option linter.all false
set_option maxRecDepth 100000
set_option maxHeartbeats 4000000
set_option exponentiation.threshold 2000
/-! k32: good webs, bad webs, the law. -/
namespace VC
open PySem
section
variable {Φ : Fns} {F : Flds} {ρ ρ' : Env} {a b c e r : E} {s u : S} {i j n k m : Nat}
def ownOr : D → SD
  | .lst l => .own l
  | d => .val d
theorem tx_ownCall {f : Nat} {ds : List D} {P : D → Prop} (h1 : evs Φ F r ρ = .ret ds) (h : Tri n (Φ f ds) P) : Tri n (exS Φ F (.ownCall i f r) ρ) (fun fl => ∃ ρ', fl = .nx ρ' ∧ ∃ d, P d ∧ ρ' = ρ.set i (ownOr d)) := by
  simp only [exS, h1, M.bind_ret]
  refine Tri.pure h fun d hd => .ret ⟨_, rfl, d, hd, ?_⟩
  cases d <;> rfl
theorem v_borO {d : D} (h : ρ[i]? = some (ownOr d)) : ev Φ F (.bor i) ρ = .ret d := by
  cases d <;> simp only [ev, h, ownOr]
/-- what repr tells -/
structure Told (d : D) : Prop where
  r : dbi .repr [d] = some (.str d.py.shown)
  ok : PyData.strOk d.py.shown = true
def toldB (d : D) : Bool := d.plain && (!d.py.hasDict || d.noL) && d.py.showable && decide (d.py.depth ≤ 60) && PyData.strOk d.py.shown && decide (d.py.shown.length ≤ 10000000)
theorem told_of {d : D} (h : toldB d = true) : Told d := by
  simp only [toldB, Bool.and_eq_true, decide_eq_true_eq] at h
  obtain ⟨⟨⟨⟨⟨h1, h2⟩, h3⟩, h4⟩, h5⟩, h6⟩ := h
  refine ⟨?_, h5⟩
  simp only [dbi, dRepr]
  rw [if_pos]
  have h2 : (!d.py.hasDict || d.noL || d.eachD) = true := by rw [h2, Bool.true_or]
  simp only [h1, h2, h3, Bool.and_true, Bool.true_and, decide_eq_true_eq, Bool.and_eq_true]
  exact ⟨h4, h6⟩
theorem told_bare {d : D} (h : d.bare = true) (hd : d.py.depth ≤ 60) (hz : d.wt ≤ 10000000) : Told d := ⟨repr_of h hd hz, (tells d h).ok⟩
theorem Told.eq {d : D} (h : Told d) : dcmp .eq (.str d.py.shown) (.str d.py.shown) = some true := by
  show deq _ _ = _
  rw [deq_strs h.ok h.ok, beq_self_eq_true]
theorem Told.ne {d : D} (h : Told d) : dcmp .ne (.str d.py.shown) (.str d.py.shown) = some false := by
  show (dcmp .eq _ _).map (!·) = _
  rw [h.eq]
  rfl
end
namespace Law
open PySem PySem.Spec PyProof.Rows L2
open Blk (lab gOf lab_lb)
theorem ph__law_good_any : t__law_near.Phi 8 = f__law_any_web := rfl
theorem ph__law_good_passed : t__law_near.Phi 14 = f__law_as_passed := rfl
theorem ph__law_good_init : t__law_near.Phi 5000 = f_Web_init := rfl
theorem ph__law_good_eq : t__law_near.Phi 6000 = f_Web_eq := rfl
theorem ph__law_good_components : t__law_near.Phi 6 = f_components := rfl
theorem ph__law_good__law_components : t__law_near.Phi 16 = f__law_components := rfl
theorem ph__law_good__law_near : t__law_near.Phi 17 = f__law_near := rfl
theorem comps_bare {p : Nat} {L : List Nat} (hp : p ≤ 40) : (compsD p L).bare = true ∧ (compsD p L).py.depth ≤ 60 ∧ (compsD p L).wt ≤ 10000000 := by
  have hm : ∀ r, ((List.range p).filter fun v => decide (gOf L v = r)).length ≤ 40 := fun r => by
    have := List.length_filter_le (fun v => decide (gOf L v = r)) (List.range p)
    rw [List.length_range] at this
    omega
  refine ⟨?_, ?_, ?_⟩
  · show bares (outL p L p) = true
    refine bares_of fun d hd => ?_
    obtain ⟨r, _, rfl⟩ := List.mem_map.mp hd
    refine nds_bare fun n hn => ?_
    have := List.mem_range.mp (List.mem_filter.mp hn).1
    exact Nat.lt_of_lt_of_le this (Nat.le_trans hp (by decide))
  · have : PyData.depthAll (pys (outL p L p)) ≤ 1 := depths_of fun d hd => by
      obtain ⟨r, _, rfl⟩ := List.mem_map.mp hd
      have := nds_depth ((List.range p).filter fun v => decide (gOf L v = r))
      rw [compD, depth_tup]
      omega
    rw [compsD, depth_tup]
    omega
  · have := wts_of (k := 40 * 1923 + 3) (l := outL p L p) fun d hd => by
      obtain ⟨r, _, rfl⟩ := List.mem_map.mp hd
      show wts (nds _) + 3 ≤ _
      have h1 := nds_wt ((List.range p).filter fun v => decide (gOf L v = r))
      have h2 := Nat.mul_le_mul_right 1923 (hm r)
      omega
    have h2 := outL_len p L p
    have h3 := Nat.mul_le_mul_right (40 * 1923 + 3 + 2) (Nat.le_trans h2 hp)
    show wts (outL p L p) + 3 ≤ _
    omega
theorem ties_noL : ∀ t : List (Nat × Nat), noLs (t.map tieD) = true
  | [] => rfl
  | a :: t => by simp [noLs, tieD, nd, D.noL, ties_noL t]
theorem both_told {p : Nat} {t : List (Nat × Nat)} (h : Fit p t) : Told (.tup [nd p, tiesD t]) := by
  have hb := ties_bare h.p2 h.ends
  have hn := nd_bare p (Nat.lt_of_le_of_lt h.p2 (by decide))
  have hd := ties_depth t
  have hw := ties_wt t
  have hl := Nat.mul_le_mul_right 3851 h.len
  refine told_bare ?_ ?_ ?_
  · have hb : (tiesD t).bare = true := by simpa [tiesD, D.bare] using hb
    simp [D.bare, bares, hn, hb]
  · rw [depth_tup]
    have e1 : (nd p).py.depth = 0 := depth_int _
    have e2 : (tiesD t).py.depth ≤ 2 := by
      rw [tiesD, depth_tup]
      omega
    simp only [pys, PyData.depthAll, e1]
    omega
  · show wts [nd p, tiesD t] + 3 ≤ _
    have e1 : (nd p).wt = 1921 := rfl
    have e2 : (tiesD t).wt = wts (t.map tieD) + 3 := rfl
    simp only [wts, e1, e2]
    omega
def envG (m k p : Nat) (t : List (Nat × Nat)) (b5 b6 b7 b8 b9 b10 : SD) : Env := [.val .pen, .val (nd m), .val (nd k), .val (nd p), .val (tiesD t), b5, b6, b7, b8, b9, b10]
theorem good_tri {m k : Nat} (hm : 1 ≤ m) (hm4 : m ≤ 40) (hk : k ≤ 60) : Tri 310 (f__law_good [.pen, nd m, nd k]) (fun d => d = .bl true) := by
  refine tf_run rfl ?_
  show Tri 310 (exS _ _ s__law_good [.val .pen, .val (nd m), .val (nd k), .no, .no, .no, .no, .no, .no, .no, .no]) _
  unfold s__law_good
  refine tx_then (n := 300) (k := 10) (P := fun ρ' => ∃ p t, Fit p t ∧ ρ' = envG m k p t .no .no .no .no .no .no) (tx_unpack ?_) (by decide) ?_
  · rw [v_call (vs_cons (v_var (d := .pen) rfl) (vs_cons (v_var (d := nd m) rfl) (vs_cons (v_var (d := nd k) rfl) vs_nil))), ph__law_good_any]
    refine (any_web_tri hm hm4 hk).mono (Nat.le_refl _) ?_
    rintro d ⟨p, t, rfl, ft, _⟩
    exact ⟨_, rfl, _, rfl, p, t, ft, rfl⟩
  rintro ρ' ⟨p, t, ft, rfl⟩
  refine tx_then (n := 1) (k := 9) (tx_ownCall (ds := [.pen, tiesD t]) (vs_cons (v_var rfl) (vs_cons (v_var rfl) vs_nil)) (by rw [ph__law_good_passed]; exact passed_tri)) (by decide) ?_
  rintro ρ' ⟨d, hd, rfl⟩
  show Tri 9 (exS _ _ _ (envG m k p t (ownOr d) .no .no .no .no .no)) _
  refine tx_skipTo (x_set (v_mkB (vs_cons (v_var rfl) (vs_cons (v_borO rfl) vs_nil)) (by rw [ph__law_good_init]; exact hd.web ft) ?_)) ?_
  · have h1 := ties_noL t
    have h2 := (Handed.tup t).still
    simp only [webD, D.noL, D.still, noLs, stills, nd, h2, Bool.and_true, Bool.true_and]
    exact h1
  show Tri 9 (exS _ _ _ (envG m k p t (ownOr d) (.val (webD p t)) .no .no .no .no)) _
  have st4 : ∃ b5, exS t__law_near.Phi F (.ite (.bi (.isi [.list]) (.cons (.bor 5) .nil)) (.seq (.append 5 (.tup (.cons (.int 0) (.cons (.int 0) .nil)))) .skip) .skip) (envG m k p t (ownOr d) (.val (webD p t)) .no .no .no .no) = .ret (.nx (envG m k p t b5 (.val (webD p t)) .no .no .no .no)) := by
    rcases hd.kind with ⟨l, rfl⟩ | ⟨l, rfl⟩
    · obtain ⟨f, h1, h2⟩ := hd.row
      have hl : l.length ≤ 60 := by
        have h1 : l = t.map f := Option.some.inj h1
        rw [h1, List.length_map]
        exact ft.len
      exact ⟨_, (x_iteT (v_bi (vs_cons (v_borO (d := .lst l) rfl) vs_nil) rfl) rfl).trans ((x_seq (x_append (l := l) (d := .tup [.int 0, .int 0]) rfl (v_tup (vs_cons v_int (vs_cons v_int vs_nil))) (by omega))).trans x_skip)⟩
    · exact ⟨_, x_if0 (v_bi (vs_cons (v_borO (d := .tup l) rfl) vs_nil) rfl) rfl⟩
  obtain ⟨b5, e4⟩ := st4
  refine tx_skipTo e4 ?_
  have eW : ∀ {b7 b8 b9 b10 : SD}, ev t__law_near.Phi F (.var 6) (envG m k p t b5 (.val (webD p t)) b7 b8 b9 b10) = .ret (webD p t) := v_var rfl
  have told := both_told ft
  refine tx_skipTo (x_if0 (v_cmp (v_bi (vs_cons (v_tup (vs_cons (v_fld (d := nd p) eW rfl) (vs_cons (v_fld (d := tiesD t) eW rfl) vs_nil))) vs_nil) told.r) (v_bi (vs_cons (v_tup (vs_cons (v_var (d := nd p) rfl) (vs_cons (v_var (d := tiesD t) rfl) vs_nil))) vs_nil) told.r) told.ne) rfl) ?_
  obtain ⟨cb, cd, cw⟩ := comps_bare (L := lab p t) ft.p2
  have tc := told_bare cb cd cw
  have eC : ev t__law_near.Phi F (.call 6 (.cons (.var 6) .nil)) (envG m k p t b5 (.val (webD p t)) .no .no .no .no) = .ret (compsD p (lab p t)) := (v_call (vs_cons eW vs_nil)).trans (by rw [ph__law_good_components]; exact components_eq ft)
  have eL : ev t__law_near.Phi F (.call 16 (.cons (.var 3) (.cons (.var 4) .nil))) (envG m k p t b5 (.val (webD p t)) .no .no .no .no) = .ret (compsD p (lab p t)) := (v_call (vs_cons (v_var (d := nd p) rfl) (vs_cons (v_var (d := tiesD t) rfl) vs_nil))).trans (by rw [ph__law_good__law_components]; exact law_components_eq ft)
  refine tx_skipTo (x_if0 ((v_orF (v_cmp (v_bi (vs_cons eC vs_nil) tc.r) (v_bi (vs_cons eL vs_nil) tc.r) tc.ne) rfl).trans (v_cmp (t := false) eC eC (by
    show (deq _ _).map (!·) = _
    rw [deq_self cb cd]
    rfl))) rfl) ?_
  refine tx_then (n := 2) (k := 0) (P := fun ρ' => ∃ q s, Fit q s ∧ (decide (p = q) && decide (t = s)) = false ∧ ρ' = envG m k p t b5 (.val (webD p t)) (.val (webD p t)) (.val (.tup [nd q, tiesD s])) .no .no) (tx_par (P := fun ds => ∃ q s, Fit q s ∧ (decide (p = q) && decide (t = s)) = false ∧ ds = [webD p t, .tup [nd q, tiesD s]]) ((ts_cons (n := 0) (k := 2) (P := fun d => d = webD p t) (Tri.eq ?_ rfl) ((ts_cons (n := 2) (k := 0) (P := fun d => ∃ q s, d = .tup [nd q, tiesD s] ∧ Fit q s ∧ (decide (p = q) && decide (t = s)) = false) ?_ ts_nil).mono (by decide) fun _ z => z)).mono (by decide) ?_) ?_) (by decide) ?_
  · refine (v_mkI (ds := [nd p, .lst (t.map lisD)]) rfl (vs_cons (v_var rfl) (vs_cons (v_compB (l := t) tieD lisD (vs_cons (v_var rfl) vs_nil) rfl fun r _ => ⟨_, rfl, v_bi (vs_cons (v_var rfl) vs_nil) rfl⟩) vs_nil))).trans ?_
    rw [ph__law_good_init]
    exact (Handed.lists t).web ft
  · rw [v_call (vs_cons (v_var (d := .pen) rfl) (vs_cons (v_var (d := nd p) rfl) (vs_cons (v_var (d := tiesD t) rfl) vs_nil))), ph__law_good__law_near]
    exact near_tri ft
  · rintro ds ⟨x, xs, rfl, rfl, y, ys, rfl, ⟨q, s, rfl, h1, h2⟩, rfl⟩
    exact ⟨q, s, h1, h2, rfl⟩
  · rintro ds ⟨q, s, h1, h2, rfl⟩
    exact ⟨_, rfl, q, s, h1, h2, rfl⟩
  rintro ρ' ⟨q, s, fq, hne, rfl⟩
  refine tx_skipTo (x_set (d := webD q s) ((v_mkI (ds := [nd q, tiesD s]) rfl (vs_cons (v_ix (v_var (d := .tup [nd q, tiesD s]) rfl) v_int rfl) (vs_cons (v_ix (v_var (d := .tup [nd q, tiesD s]) rfl) v_int rfl) vs_nil))).trans (by rw [ph__law_good_init]; exact (Handed.tup s).web fq))) ?_
  show Tri 0 (exS _ _ _ (envG m k p t b5 (.val (webD p t)) (.val (webD p t)) (.val (.tup [nd q, tiesD s])) (.val (webD q s)) .no)) _
  have q1 : t__law_near.Phi 6000 [webD p t, webD p t] = M.ret (.bl true) := by
    rw [ph__law_good_eq, web_eq ft ft]
    simp
  have q2 : t__law_near.Phi 6000 [webD p t, webD q s] = M.ret (.bl false) := by
    rw [ph__law_good_eq, web_eq ft fq, hne]
  have q3 : t__law_near.Phi 6000 [webD q s, webD p t] = M.ret (.bl false) := by
    rw [ph__law_good_eq, web_eq fq ft]
    have : (decide (q = p) && decide (s = t)) = false := by
      rw [← hne]
      congr 1 <;> rw [decide_eq_decide] <;> exact eq_comm
    rw [this]
  refine tx_skipTo (x_if0 ((v_orF (v_no (t := true) (v_eqO (t := true) (n := 0) eW (v_var (d := webD p t) rfl) rfl q1) rfl) rfl).trans ((v_orF (v_eqO (t := true) (n := 0) (neg := true) eW (v_var (d := webD p t) rfl) rfl q1) rfl).trans ((v_orF (v_eqO (t := false) (n := 0) eW (v_var (d := webD q s) rfl) rfl q2) rfl).trans ((v_orF (v_eqO (t := false) (n := 0) (v_var (d := webD q s) rfl) eW rfl q3) rfl).trans (v_no (t := true) (v_eqO (t := false) (n := 0) (neg := true) eW (v_var (d := webD q s) rfl) rfl q2) rfl))))) rfl) ?_
  have q4 : ∀ y : D, y.still = true → (∀ n l, y ≠ .obj n l) → t__law_near.Phi 6000 [webD p t, y] = M.ret (.bl false) := fun y h1 h2 => by
    rw [ph__law_good_eq]
    exact web_eq_no h1 h2
  refine tx_seqR (tx_ret (Tri.eq ((v_andT (v_no (t := false) (v_eqO (t := false) (n := 0) eW (v_tup (vs_cons (v_var (d := nd p) rfl) (vs_cons (v_var (d := tiesD t) rfl) vs_nil))) rfl (q4 _ ?_ ?_)) rfl) rfl).trans ((v_andT (v_no (t := false) (v_eqO (t := false) (n := 0) eW v_non rfl (q4 _ rfl ?_)) rfl) rfl).trans (v_no (t := false) (v_eqO (t := false) (n := 0) eW v_str rfl (q4 _ rfl ?_)) rfl))) rfl))
  · have h2 := (Handed.tup t).still
    simp only [D.still, stills, nd, h2, Bool.and_true]
  · intro n l z
    cases z
  · intro n l z
    cases z
  · intro n l z
    cases z
end Law
end VC
set_option Elab.async false
set_option linter.all false
set_option maxRecDepth 100000
set_option maxHeartbeats 4000000
set_option exponentiation.threshold 2000
/-! k32: bad webs, the law. -/
namespace VC
namespace Law
open PySem PySem.Spec PyProof.Rows L2
open Blk (lab gOf lab_lb)
theorem ph__law_bad_any : t__law_good.Phi 8 = f__law_any_web := rfl
theorem ph__law_bad_pick : t__law_good.Phi 13 = f__law_pick := rfl
theorem ph__law_bad_same : t__law_good.Phi 10 = f__law_same := rfl
theorem ph__law_bad_init : t__law_good.Phi 5000 = f_Web_init := rfl
theorem ph__law_bad_odd : t__law_good.Phi 9 = f__law_odd := rfl
theorem ph__law_bad_components : t__law_good.Phi 6 = f_components := rfl
theorem ph__law_odd__law_pick : t__law_any_web.Phi 13 = f__law_pick := rfl
theorem ph_law_init : t_law.Phi 5000 = f_Web_init := rfl
theorem ph_law_components : t_law.Phi 6 = f_components := rfl
theorem ph_law_good : t_law.Phi 18 = f__law_good := rfl
theorem ph_law_bad : t_law.Phi 19 = f__law_bad := rfl
theorem same_eq {l : List D} (h : Told (.tup l)) : f__law_same [.tup l, .tup l] = M.ret (.bl true) := by
  refine f_run rfl ?_
  show exS _ _ s__law_same [.val (.tup l), .val (.tup l)] = _
  unfold s__law_same
  exact x_seqR (x_ret ((v_andT (v_bi (d := .bl true) (vs_cons (v_var rfl) vs_nil) rfl) rfl).trans (v_cmp (v_bi (vs_cons (v_var rfl) vs_nil) h.r) (v_bi (vs_cons (v_var rfl) vs_nil) h.r) h.eq)))
def oddL (p : Nat) : List D := [.non, .int 5, .str (Str.ofString "ab"), .dic [], .tup [.tup [.int 0, .int 0, .int 0]], .tup [.tup [.int 0]], .tup [.int 5], .tup [.tup [.int 0, nd p]], .tup [.tup [.int (-1), .int 0]], .tup [.tup [.int 0, .bl true]], .tup [.tup [.non, .int 0]], .tup [.str (Str.ofString "00")], .tup (List.replicate 61 (.tup [.int 0, .int 0])), .lst (List.replicate 61 (.lst [.int 0, .int 0])), .tup [.tup [.int 0, .int 0], .lst [.int 0]]]
def someL : List D := [.non, .bl true, .int 0, .int (-1), .str (Str.ofString ""), .str (Str.ofString "web"), .tup [], .lst [], .tup [.int 0], .tup [.tup []], .tup [.tup [.int 0, .int 1]], .tup [.non, .non], .lst [.lst [.int 1]], .dic [], .int (10 ^ 30)]
theorem num_set {a b c d e : SD} : ev t__law_good.Phi F (.lst (.cons (.int 0) (.cons (.int 41) (.cons (.neg (.int 1)) (.cons (.neg (.int 40)) (.cons (.bl true) (.cons .non (.cons (.str "3") (.cons (.tup (.cons (.int 3) .nil)) (.cons (.bin .pow (.int 10) (.int 12)) .nil)))))))))) [a, b, c, d, e, .no] = .ret (.lst numL) := by
  refine v_lst (vs_cons v_int (vs_cons v_int (vs_cons (v_neg v_int) (vs_cons (v_neg v_int) (vs_cons v_bl (vs_cons v_non (vs_cons v_str (vs_cons (v_tup (vs_cons v_int vs_nil)) (vs_cons (v_bin v_int v_int ?_) vs_nil)))))))))
  show (if 0 ≤ (12 : Int) ∧ (12 : Int) ≤ 1000000 ∧ (10 : Int).natAbs < 2 ^ 64 then some (D.int (10 ^ (12 : Int).toNat)) else none) = _
  rw [if_pos (by decide)]
  rfl
theorem odd_set {p : Nat} {a c d e : SD} : ev t__law_good.Phi F (.lst (.cons .non (.cons (.int 5) (.cons (.str "ab") (.cons .dic0 (.cons (.tup (.cons (.tup (.cons (.int 0) (.cons (.int 0) (.cons (.int 0) .nil)))) .nil)) (.cons (.tup (.cons (.tup (.cons (.int 0) .nil)) .nil)) (.cons (.tup (.cons (.int 5) .nil)) (.cons (.tup (.cons (.tup (.cons (.int 0) (.cons (.var 1) .nil))) .nil)) (.cons (.tup (.cons (.tup (.cons (.neg (.int 1)) (.cons (.int 0) .nil))) .nil)) (.cons (.tup (.cons (.tup (.cons (.int 0) (.cons (.bl true) .nil))) .nil)) (.cons (.tup (.cons (.tup (.cons .non (.cons (.int 0) .nil))) .nil)) (.cons (.tup (.cons (.str "00") .nil)) (.cons (.bin .mul (.tup (.cons (.tup (.cons (.int 0) (.cons (.int 0) .nil))) .nil)) (.int 61)) (.cons (.bin .mul (.lst (.cons (.lst (.cons (.int 0) (.cons (.int 0) .nil))) .nil)) (.int 61)) (.cons (.tup (.cons (.tup (.cons (.int 0) (.cons (.int 0) .nil))) (.cons (.lst (.cons (.int 0) .nil)) .nil))) .nil)))))))))))))))) [a, .val (nd p), c, d, e, .no] = .ret (.lst (oddL p)) := by
  refine v_lst (vs_cons v_non (vs_cons v_int (vs_cons v_str (vs_cons v_dic0 (vs_cons (v_tup (vs_cons (v_tup (vs_cons v_int (vs_cons v_int (vs_cons v_int vs_nil)))) vs_nil)) (vs_cons (v_tup (vs_cons (v_tup (vs_cons v_int vs_nil)) vs_nil)) (vs_cons (v_tup (vs_cons v_int vs_nil)) (vs_cons (v_tup (vs_cons (v_tup (vs_cons v_int (vs_cons (v_var rfl) vs_nil))) vs_nil)) (vs_cons (v_tup (vs_cons (v_tup (vs_cons (v_neg v_int) (vs_cons v_int vs_nil))) vs_nil)) (vs_cons (v_tup (vs_cons (v_tup (vs_cons v_int (vs_cons v_bl vs_nil))) vs_nil)) (vs_cons (v_tup (vs_cons (v_tup (vs_cons v_non (vs_cons v_int vs_nil))) vs_nil)) (vs_cons (v_tup (vs_cons v_str vs_nil)) (vs_cons (v_bin (v_tup (vs_cons (v_tup (vs_cons v_int (vs_cons v_int vs_nil))) vs_nil)) v_int rfl) (vs_cons (v_bin (v_lst (vs_cons (v_lst (vs_cons v_int (vs_cons v_int vs_nil))) vs_nil)) v_int rfl) (vs_cons (v_tup (vs_cons (v_tup (vs_cons v_int (vs_cons v_int vs_nil))) (vs_cons (v_lst (vs_cons v_int vs_nil)) vs_nil))) vs_nil)))))))))))))))
theorem some_set : ev t__law_any_web.Phi F (.lst (.cons .non (.cons (.bl true) (.cons (.int 0) (.cons (.neg (.int 1)) (.cons (.str "") (.cons (.str "web") (.cons (.tup .nil) (.cons (.lst .nil) (.cons (.tup (.cons (.int 0) .nil)) (.cons (.tup (.cons (.tup .nil) .nil)) (.cons (.tup (.cons (.tup (.cons (.int 0) (.cons (.int 1) .nil))) .nil)) (.cons (.tup (.cons .non (.cons .non .nil))) (.cons (.lst (.cons (.lst (.cons (.int 1) .nil)) .nil)) (.cons .dic0 (.cons (.bin .pow (.int 10) (.int 30)) .nil)))))))))))))))) [.val .pen, .no] = .ret (.lst someL) := by
  refine v_lst (vs_cons v_non (vs_cons v_bl (vs_cons v_int (vs_cons (v_neg v_int) (vs_cons v_str (vs_cons v_str (vs_cons (v_tup vs_nil) (vs_cons (v_lst vs_nil) (vs_cons (v_tup (vs_cons v_int vs_nil)) (vs_cons (v_tup (vs_cons (v_tup vs_nil) vs_nil)) (vs_cons (v_tup (vs_cons (v_tup (vs_cons v_int (vs_cons v_int vs_nil))) vs_nil)) (vs_cons (v_tup (vs_cons v_non (vs_cons v_non vs_nil))) (vs_cons (v_lst (vs_cons (v_lst (vs_cons v_int vs_nil)) vs_nil)) (vs_cons v_dic0 (vs_cons (v_bin v_int v_int ?_) vs_nil)))))))))))))))
  show (if 0 ≤ (30 : Int) ∧ (30 : Int) ≤ 1000000 ∧ (10 : Int).natAbs < 2 ^ 64 then some (D.int (10 ^ (30 : Int).toNat)) else none) = _
  rw [if_pos (by decide)]
  rfl
/-- a short text and a bare value -/
theorem told_pair {z : Str} {d : D} (hs : Tells (.str z)) (hb : d.bare = true) (hd : d.py.depth ≤ 50) (hz : d.wt ≤ 9000000) : Told (.tup [.str z, d]) := by
  have t := tells d hb
  have e : (D.tup [.str z, d]).py.shown = tupleText [(D.str z).py.shown, d.py.shown] := by simp only [D.py, pys, PyData.shown, PyData.shownAll]
  have ok : ∀ x ∈ [(D.str z).py.shown, d.py.shown], PyData.strOk x = true := fun x hx => by
    simp only [List.mem_cons, List.not_mem_nil, or_false] at hx
    rcases hx with rfl | rfl
    · exact hs.ok
    · exact t.ok
  have len : (tupleText [(D.str z).py.shown, d.py.shown]).length ≤ 10000000 := by
    have h1 := tuple_len [(D.str z).py.shown, d.py.shown]
    have h2 := hs.len
    have h3 := t.len
    have h4 : (D.str z).wt = 5 := rfl
    simp only [piled_cons, piled_nil] at h1
    omega
  refine ⟨?_, by rw [e]; exact ok_tuple ok⟩
  simp only [dbi, dRepr]
  rw [if_pos]
  have a1 : (D.tup [.str z, d]).plain = true := by simp [D.plain, plains, t.plain]
  have a2 : (!(D.tup [.str z, d]).py.hasDict || (D.tup [.str z, d]).noL || (D.tup [.str z, d]).eachD) = true := by
    have : (D.tup [.str z, d]).py.hasDict = false := by
      have h1 := hs.dict
      have h2 := t.dict
      simp [D.py, pys, PyData.hasDict, PyData.hasDictAll, h2] at h1 ⊢
    rw [this]
    rfl
  have a3 : (D.tup [.str z, d]).py.showable = true := by
    have h1 := hs.can
    have h2 := t.can
    simp only [D.py] at h1
    simp [D.py, pys, PyData.showable, PyData.showableAll, h2] at h1 ⊢
    try exact h1
  have a4 : (D.tup [.str z, d]).py.depth ≤ 60 := by
    rw [depth_tup]
    have e1 : (D.str z).py.depth = 0 := by simp [D.py, PyData.depth]
    simp only [pys, PyData.depthAll, e1]
    omega
  have a5 : (D.tup [.str z, d]).py.shown.length ≤ 10000000 := by rw [e]; exact len
  simp only [a1, a2, a3, Bool.and_true, Bool.true_and, decide_eq_true_eq, Bool.and_eq_true]
  exact ⟨a4, a5⟩
theorem row_tells : Tells (.str (Str.ofString "row")) := ⟨rfl, rfl, by decide +kernel, by decide +kernel, by decide +kernel⟩
def smallL (p : Nat) : List D := [.non, .int 5, .str (Str.ofString "ab"), .dic [], .tup [.tup [.int 0, .int 0, .int 0]], .tup [.tup [.int 0]], .tup [.int 5], .tup [.tup [.int 0, nd p]], .tup [.tup [.int (-1), .int 0]], .tup [.tup [.int 0, .bl true]], .tup [.tup [.non, .int 0]], .tup [.str (Str.ofString "00")], .tup [.tup [.int 0, .int 0], .lst [.int 0]]]
def rowB (d : D) : Bool := toldB (.tup [.str (Str.ofString "row"), d]) && d.still
theorem small_all : ∀ p < 10, ∀ d ∈ smallL p, (rowB d && !tiesOk p d) = true := by
  intro p hp
  refine List.all_eq_true.mp (show (smallL p).all (fun d => rowB d && !tiesOk p d) = true from ?_)
  match p, hp with
  | 0, _ => decide +kernel
  | 1, _ => decide +kernel
  | 2, _ => decide +kernel
  | 3, _ => decide +kernel
  | 4, _ => decide +kernel
  | 5, _ => decide +kernel
  | 6, _ => decide +kernel
  | 7, _ => decide +kernel
  | 8, _ => decide +kernel
  | 9, _ => decide +kernel
theorem many_bare {n : Nat} {d : D} (h : d.bare = true) : bares (List.replicate n d) = true := bares_of fun x hx => by
  rw [(List.mem_replicate.mp hx).2]
  exact h
theorem many_ok {n : Nat} {d x : D} (hx : x = .tup (List.replicate n d) ∨ x = .lst (List.replicate n d)) (hn : n ≤ 100) (h : d.bare = true) (hd : d.py.depth ≤ 10) (hw : d.wt ≤ 10000) : Told (.tup [.str (Str.ofString "row"), x]) := by
  have h1 := many_bare (n := n) h
  have h2 : PyData.depthAll (pys (List.replicate n d)) ≤ 10 := depths_of fun x hx => by
    rw [(List.mem_replicate.mp hx).2]
    exact hd
  have h3 := wts_of (k := 10000) (l := List.replicate n d) fun x hx => by
    rw [(List.mem_replicate.mp hx).2]
    exact hw
  rw [List.length_replicate] at h3
  have h4 := Nat.mul_le_mul_right 10002 hn
  rcases hx with rfl | rfl
  · refine told_pair row_tells (by simpa [D.bare] using h1) (by rw [depth_tup]; omega) ?_
    show wts _ + 3 ≤ _
    omega
  · refine told_pair row_tells (by simpa [D.bare] using h1) (by rw [depth_lst]; omega) ?_
    show wts _ + 3 ≤ _
    omega
theorem odd_all {p : Nat} (hp : p < 10) {d : D} (h : d ∈ oddL p) : Told (.tup [.str (Str.ofString "row"), d]) ∧ d.still = true ∧ tiesOk p d = false := by
  have small : d ∈ smallL p → Told (.tup [.str (Str.ofString "row"), d]) ∧ d.still = true ∧ tiesOk p d = false := fun h => by
    have h := small_all p hp d h
    simp only [rowB, Bool.and_eq_true, Bool.not_eq_true'] at h
    exact ⟨told_of h.1.1, h.1.2, h.2⟩
  have big : ∀ {k d0 : D}, items? k = some (List.replicate 61 d0) → tiesOk p k = false := fun e => by
    rw [tiesOk_some e, List.length_replicate]
    rfl
  have hm : d ∈ smallL p ∨ d = .tup (List.replicate 61 (.tup [.int 0, .int 0])) ∨ d = .lst (List.replicate 61 (.lst [.int 0, .int 0])) := by
    unfold oddL at h
    unfold smallL
    generalize D.tup (List.replicate 61 (.tup [.int 0, .int 0])) = A at h ⊢
    generalize D.lst (List.replicate 61 (.lst [.int 0, .int 0])) = B at h ⊢
    simp only [List.mem_cons, List.not_mem_nil, or_false] at h ⊢
    rcases h with h | h | h | h | h | h | h | h | h | h | h | h | h | h | h <;> simp [h]
  rcases hm with hm | rfl | rfl
  · exact small hm
  · exact ⟨many_ok (.inl rfl) (by decide) rfl (by decide) (by decide), by decide +kernel, big rfl⟩
  · exact ⟨many_ok (.inr rfl) (by decide) rfl (by decide) (by decide), by decide +kernel, big rfl⟩
theorem num_all : ∀ d ∈ numL, toldB (.tup [.str (Str.ofString "number"), .str (Str.ofString "places"), d]) = true := List.all_eq_true.mp (show numL.all (fun d => toldB (.tup [.str (Str.ofString "number"), .str (Str.ofString "places"), d])) = true by decide +kernel)
theorem unlike_told : Told (.tup [.str (Str.ofString "unlike"), .str (Str.ofString "web")]) := told_of (by decide +kernel)
theorem some_all : ∀ d ∈ someL, f_components [d] = M.err ⟨4, [.str (Str.ofString "web")]⟩ := by
  intro d hd
  have key : ∀ d : D, (match d with | .obj _ _ => false | .lam _ => false | _ => true) = true → f_components [d] = M.err ⟨4, [.str (Str.ofString "web")]⟩ := fun d h => by
    have e1 : f_need_web [d] = M.err ⟨4, [.str (Str.ofString "web")]⟩ := by
      refine f_err rfl ?_
      show exS _ _ s_need_web [.val d] = _
      unfold s_need_web
      refine x_seqE ((x_iteT (x := .bl true) (v_no (x := .bl false) (t := false) (v_bi (vs_cons (v_var (d := d) rfl) vs_nil) ?_) rfl) rfl).trans (x_seqE (x_raise (vs_cons v_str vs_nil))))
      cases d <;> first | rfl | cases h
    refine f_err rfl ?_
    show exS _ _ s_components [.val d, .no, .no, .no, .no] = _
    unfold s_components
    exact x_seqE (x_exprE ((v_call (vs_cons (v_var (d := d) rfl) vs_nil)).trans (by rw [ph_components_need_web]; exact e1)))
  refine key d ?_
  simp only [someL, List.mem_cons, List.not_mem_nil, or_false] at hd
  rcases hd with rfl | rfl | rfl | rfl | rfl | rfl | rfl | rfl | rfl | rfl | rfl | rfl | rfl | rfl | rfl <;> rfl
theorem odd_tri : Tri 1 (f__law_odd [.pen]) (fun d => d ∈ someL) := by
  refine tf_run rfl ?_
  show Tri 1 (exS _ _ s__law_odd [.val .pen, .no]) _
  unfold s__law_odd
  refine tx_skipTo (x_set some_set) (tx_seqR (tx_ret ?_))
  rw [v_call (vs_cons (v_var (d := .pen) rfl) (vs_cons (v_var (d := .lst someL) rfl) vs_nil)), ph__law_odd__law_pick]
  exact pick_tri (by simp [someL]) (by simp [someL])
theorem bad_tri : Tri 310 (f__law_bad [.pen]) (fun d => d = .bl true) := by
  refine tf_run rfl ?_
  show Tri 310 (exS _ _ s__law_bad [.val .pen, .no, .no, .no, .no, .no]) _
  unfold s__law_bad
  refine tx_then (n := 300) (k := 10) (P := fun ρ' => ∃ p t, Fit p t ∧ p ≤ 9 ∧ ρ' = [.val .pen, .val (nd p), .val (tiesD t), .no, .no, .no]) (tx_unpack ?_) (by decide) ?_
  · rw [v_call (vs_cons (v_var (d := .pen) rfl) (vs_cons v_int (vs_cons v_int vs_nil))), ph__law_bad_any]
    refine (any_web_tri (m := 9) (k := 9) (by decide) (by decide) (by decide)).mono (Nat.le_refl _) ?_
    rintro d ⟨p, t, rfl, ft, hp⟩
    exact ⟨_, rfl, _, rfl, p, t, ft, hp, rfl⟩
  rintro ρ' ⟨p, t, ft, hp, rfl⟩
  refine tx_then (n := 1) (k := 9) (tx_set (P := fun d => d ∈ numL) ?_) (by decide) ?_
  · rw [v_call (vs_cons (v_var (d := .pen) rfl) (vs_cons num_set vs_nil)), ph__law_bad_pick]
    exact pick_tri (by simp [numL]) (by simp [numL])
  rintro ρ' ⟨nb, rfl, hn⟩
  show Tri 9 (exS _ _ _ [.val .pen, .val (nd p), .val (tiesD t), .val nb, .no, .no]) _
  refine tx_then (n := 1) (k := 8) (tx_set (P := fun d => d ∈ oddL p) ?_) (by decide) ?_
  · rw [v_call (vs_cons (v_var (d := .pen) rfl) (vs_cons odd_set vs_nil)), ph__law_bad_pick]
    exact pick_tri (by simp [oddL]) (by simp [oddL])
  rintro ρ' ⟨od, rfl, ho⟩
  show Tri 8 (exS _ _ _ [.val .pen, .val (nd p), .val (tiesD t), .val nb, .val od, .no]) _
  have ho2 := odd_all (p := p) (by omega) ho
  have tn := told_of (num_all nb hn)
  have to := ho2.1
  have s1 : ∀ {r : E} {x : D}, hards (.cons (.var 3) r) = true → evs t__law_good.Phi F (.cons (.var 3) r) [.val .pen, .val (nd p), .val (tiesD t), .val nb, .val od, .no] = .ret [nb, x] → ev t__law_good.Phi F (.no (.call 10 (.cons (.catch (.mkI 0 (.cons (.var 3) r))) (.cons (.tup (.cons (.str "number") (.cons (.str "places") (.cons (.var 3) .nil)))) .nil)))) [.val .pen, .val (nd p), .val (tiesD t), .val nb, .val od, .no] = .ret (.bl false) := fun hr hx =>
    v_no (t := true) ((v_call (vs_cons (v_catch (tag := "number") ((v_mkI hr hx).trans (by rw [ph__law_bad_init]; exact init_num hn)) rfl) (vs_cons (v_tup (vs_cons v_str (vs_cons v_str (vs_cons (v_var (d := nb) rfl) vs_nil)))) vs_nil))).trans (by rw [ph__law_bad_same]; exact same_eq tn)) rfl
  refine tx_skipTo (x_if0 (s1 rfl (vs_cons (v_var rfl) (vs_cons (v_var (d := od) rfl) vs_nil))) rfl) ?_
  refine tx_skipTo (x_if0 (s1 rfl (vs_cons (v_var rfl) (vs_cons (v_var (d := tiesD t) rfl) vs_nil))) rfl) ?_
  refine tx_skipTo (x_if0 (x := .bl false) (v_no (t := true) ((v_call (vs_cons (v_catch (tag := "row") ((v_mkI rfl (vs_cons (v_var (d := nd p) rfl) (vs_cons (v_var (d := od) rfl) vs_nil))).trans (by rw [ph__law_bad_init]; exact init_row ft.p1 ft.p2 ho2.2.1 ho2.2.2)) rfl) (vs_cons (v_tup (vs_cons v_str (vs_cons (v_var (d := od) rfl) vs_nil))) vs_nil))).trans (by rw [ph__law_bad_same]; exact same_eq to)) rfl) rfl) ?_
  refine tx_then (n := 1) (k := 0) (tx_set (P := fun d => d ∈ someL) ?_) (by decide) ?_
  · rw [v_call (vs_cons (v_var (d := .pen) rfl) vs_nil), ph__law_bad_odd]
    exact odd_tri
  rintro ρ' ⟨v, rfl, hv⟩
  show Tri 0 (exS _ _ _ [.val .pen, .val (nd p), .val (tiesD t), .val nb, .val od, .val v]) _
  exact tx_seqR (tx_ret (Tri.eq ((v_call (vs_cons (v_catch (tag := "unlike") ((v_call (vs_cons (v_var (d := v) rfl) vs_nil)).trans (by rw [ph__law_bad_components]; exact some_all v hv)) rfl) (vs_cons (v_tup (vs_cons v_str (vs_cons v_str vs_nil))) vs_nil))).trans (by rw [ph__law_bad_same]; exact same_eq unlike_told)) rfl))
def edgeT : List (Nat × Nat) := List.replicate 60 (39, 0)
theorem edge_fit : Fit 40 edgeT := ⟨by decide, by decide, by decide, fun e he => by
  obtain ⟨_, rfl⟩ := List.mem_replicate.mp he
  exact ⟨by decide, by decide⟩⟩
theorem edge_len : (outL 40 (lab 40 edgeT) 40).length = 39 := by
  unfold outL
  rw [List.length_map]
  decide +kernel
theorem law_tri : Tri 1300 (exS t_law.Phi F s_law [.no, .val .pen, .no, .no]) (fun fl => ∃ d, fl = .rt d ∧ d = .bl true) := by
  unfold s_law
  have e1 : ev t_law.Phi F (.mkI 0 (.cons (.int 40) (.cons (.bin .mul (.tup (.cons (.tup (.cons (.int 39) (.cons (.int 0) .nil))) .nil)) (.int 60)) .nil))) [.no, .val .pen, .no, .no] = .ret (webD 40 edgeT) :=
    (v_mkI (ds := [nd 40, tiesD edgeT]) rfl (vs_cons v_int (vs_cons (v_bin (v_tup (vs_cons (v_tup (vs_cons v_int (vs_cons v_int vs_nil))) vs_nil)) v_int rfl) vs_nil))).trans (by rw [ph_law_init]; exact (Handed.tup edgeT).web edge_fit)
  refine tx_skipTo (x_set e1) ?_
  show Tri 1300 (exS _ _ _ [.no, .val .pen, .val (webD 40 edgeT), .no]) _
  refine tx_skipTo (x_if0 ((v_orF (x := .bl false) (v_cmp (x := nd 60) (y := nd 60) (v_bi (vs_cons (v_fld (d := tiesD edgeT) (v_var (d := webD 40 edgeT) rfl) rfl) vs_nil) (ties_len edgeT)) v_int (ne_nat _ _)) rfl).trans (v_cmp (x := nd 39) (y := nd 39) (t := false) (v_bi (ds := [compsD 40 (lab 40 edgeT)]) (vs_cons ((v_call (vs_cons (v_var (d := webD 40 edgeT) rfl) vs_nil)).trans (by rw [ph_law_components]; exact components_eq edge_fit)) vs_nil) (by
    rw [compsD, len_items (d := .tup (outL 40 (lab 40 edgeT) 40)) rfl, edge_len])) v_int (ne_nat _ _))) rfl) ?_
  refine tx_then (n := 0 + 310 * 2) (k := 680) (tx_for (k := 310) (fun j ρ => ∃ b3, ρ = [.no, .val .pen, .val (webD 40 edgeT), b3]) 2 (P := fun ds => ds = [nd 2]) (Tri.eq (vs_cons v_int vs_nil) rfl) ?_) (by decide) ?_
  · rintro ds rfl
    refine ⟨_, range_items (by decide), by decide, ⟨_, rfl⟩, ?_⟩
    rintro j d σ hd ⟨b3, rfl⟩
    refine ⟨_, rfl, ?_⟩
    show Tri 310 (exS _ _ _ [.no, .val .pen, .val (webD 40 edgeT), .val d]) _
    refine tx_then (n := 310) (k := 0) (P := fun ρ' => ρ' = [.no, .val .pen, .val (webD 40 edgeT), .val d]) ?_ (by decide) ?_
    · refine (tx_ite (n := 310) (k := 0) (P := fun x => x = .bl false) ?_ ?_).mono (by decide) fun _ z => z
      · simp only [ev, vs_cons (v_var (ρ := [.no, .val .pen, .val (webD 40 edgeT), .val d]) (i := 1) (d := .pen) rfl) (vs_cons v_int (vs_cons v_int vs_nil)), M.bind_ret]
        rw [ph_law_good]
        refine Tri.pure (good_tri (m := 9) (k := 12) (by decide) (by decide) (by decide)) fun x hx => ?_
        subst hx
        exact Tri.eq rfl rfl
      · rintro x rfl
        exact ⟨false, rfl, fun z => (nomatch z), fun _ => Tri.eq x_skip ⟨_, rfl, rfl⟩⟩
    · rintro ρ' rfl
      exact Tri.eq x_skip ⟨_, .inl rfl, _, rfl⟩
  · rintro ρ' ⟨ds, l, _, _, b3, rfl⟩
    refine tx_seqR (tx_ret ?_)
    refine (te_and (n := 310) (k := 310) (P := fun x => x = .bl true) ?_ ?_).mono (by decide) fun _ z => z
    · rw [v_call (vs_cons (v_var (d := .pen) rfl) (vs_cons v_int (vs_cons v_int vs_nil))), ph_law_good]
      exact good_tri (m := 40) (k := 60) (by decide) (by decide) (by decide)
    · rintro x rfl
      refine ⟨true, rfl, fun _ => ?_, fun z => (nomatch z)⟩
      rw [v_call (vs_cons (v_var (d := .pen) rfl) vs_nil), ph_law_bad]
      exact bad_tri
end Law
theorem Law.plain (ns : List Int) (hl : ns.length ≤ 63) : ∃ st', exS Law.t_law.Phi Law.F Law.s_law (.no :: .val .pen :: List.replicate (Law.N_law.length - 2) .no) (pen0 ns) = .ok (.rt (.bl true)) st' := by
  have hk := pen0_ok ns
  unfold PenSt.ok at hk
  have hk := of_decide_eq_true hk
  obtain ⟨a, s', e, ⟨d, rfl, rfl⟩, _, _⟩ := Law.law_tri (pen0 ns) ⟨hk.1, hk.2.1⟩ (by show 0 + 1300 < 2 ^ 40; decide)
  exact ⟨s', e⟩
end VC
set_option Elab.async false
set_option linter.all false
set_option maxRecDepth 100000
set_option maxHeartbeats 0
open PySem PySem.W PySem.Calls PyProof.Rows
theorem PySem.Challenge.cw_wholecorners_k32_webs_and_components_holds : PySem.Challenge.rw_wholecorners_k32_webs_and_components.Holds := by
  w_on; o_law
  refine HandSHeadRun.head_any (r := OpenLaw.row PySem.Challenge.rw_wholecorners_k32_webs_and_components) (q := view (OpenLaw.row PySem.Challenge.rw_wholecorners_k32_webs_and_components).prog [33]) (H := VC.Law.hk) (ob := VC.Law.ob) (M := 4000) (loose := ["is_whole", "is_row", "need_between", "labels_of", "is_tie", "need_web", "components", "_law_labels", "_law_any_web", "_law_odd", "_law_same", "_law_pen", "_law_draw", "_law_pick", "_law_as_passed", "_law_fault", "_law_components", "_law_near", "_law_good", "_law_bad", "CornerError", "BadTable", "BadNumber", "BadRow", "BadWish", "Unlike", "Web"]) (d := HandSHeadRun.topDef (OpenLaw.row PySem.Challenge.rw_wholecorners_k32_webs_and_components).prog 33) (kwd := []) VC.Law.ob_eq
    (by kernel_rfl) (fun s => by kernel_rfl) VC.Law.run (by kernel_rfl) (by kernel_rfl) (by kernel_rfl) (by rfl) (by first | assumption | decide +kernel) (by decide +kernel) ⟨rfl, rfl, rfl, rfl, rfl, by decide +kernel⟩ ?hw ?hc
  case hw => w_witness2
  case hc =>
    refine VC.walk_ofG (l := PySem.Challenge.rw_wholecorners_k32_webs_and_components) (n := _) rfl (by decide) (by kernel_rfl) fun w mg fa h Y hns hmg0 => ?_
    obtain ⟨K, KX, c⟩ := Y
    have hmg : mg ("law" : PySem.Str) = some (.ref fa) := by
      have e : (HandSHeadRun.topDef (OpenLaw.row PySem.Challenge.rw_wholecorners_k32_webs_and_components).prog 33).name = ("law" : PySem.Str) := by kernel_rfl
      rw [← e]
      exact hmg0
    have e := hmg.symm.trans (He.glo_ok KX hns (c.t.d.fact 20 (f := .glo "law") rfl))
    cases e
    refine ⟨K, VC.Law.tf.map (He.cT K), KX, fun p hp => ?_, fun p hp => ?_, fun p hp => ?_, fun base H a ns s₁ hb hn hT ht hS hl e0 => VC.Law.law_ok c hb hn hT ht hS e0 (VC.Law.plain ns hl)⟩
    · obtain ⟨p', hp', rfl⟩ := List.mem_map.mp hp
      exact c.empty p' hp'
    · obtain ⟨p', hp', rfl⟩ := List.mem_map.mp hp
      exact c.out p' hp'
    · obtain ⟨p', hp', rfl⟩ := List.mem_map.mp hp
      exact PySem.W.codeHd_of_K KX (c.hd p' hp')
