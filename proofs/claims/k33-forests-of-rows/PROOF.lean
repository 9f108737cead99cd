import PyProof.Rows.All
import HandS.ForMost
import HandS.Wide
import HandS.DictEq
import HandS.Text
import HandS.More
import HandS.SortRule
import HandS.ExcOwn
import HandS.WordsExc
import HandS.WideBits
import KE.DataEq
import HandS.TupLe
import HandS.TryOnly
import HandS.SortInts
import HandS.IsInst
import HandS.Finally
import HandS.Ends
import HandS.EndBits
import HandS.Deep
import HandS.Strs
import KE.DataFind
import HandS.Zip
import KE.GoesEnum
import HandS.Iter
import HandS.Conv
import KE.SortData
import KE.DataMinMax
import PyProof.P3Eq
import HandS.ForExc
import HandS.ExcInit
import HandS.ExcIs
import HandS.ExcField
import KE.KExcIs
import HandS.RaiseMore
import HandS.ExcValue
import HandS.FStrTup
import KE.KExcStr
import HandS.SetFor
import KE.KTupSum
import KE.KSortTupAny
import PyProof.Rows.Chain
import KE.KDictSum
import PyProof.TupleOfGen
import KE.KDictWalk
import KE.KItemsList
import HandS.FStr
import KE.KDictItemsList
import KE.KDictZip
import PySem.Challenge.RW_heldwithin_k33_forests_of_rows
set_option Elab.async false
set_option linter.all false
set_option maxRecDepth 100000
namespace Am
open PySem
abbrev T := List Nat
abbrev Key := Sum Int T
/-- data that is never changed -/
inductive D where
  | non | bl (b : Bool) | int (i : Int) | str (s : T)
  | tup (xs : List D) | lst (xs : List D) | dct (kvs : List (Key × D))
  | exc (c : Nat) (fs : List D)
  /-- an exception that keeps its text -/
  | exs (c : Nat) (s : T)
/-- what a slot holds: data, or an object of its own -/
inductive AV where
  | p (d : D) | ol (xs : List D) | od (kvs : List (Key × D)) | ld (a : Nat) (kvs : List (Key × D)) | ll (a : Nat) (xs : List D) | oi (c : Nat) (fs : List (Option AV))
abbrev Sl := List (Option AV)
@[reducible] def getL {α : Type} : List α → Nat → Option α
  | [], _ => none
  | a :: _, 0 => some a
  | _ :: r, n + 1 => getL r n
@[reducible] def setL {α : Type} : List α → Nat → α → List α
  | [], _, _ => []
  | _ :: r, 0, b => b :: r
  | a :: r, n + 1, b => a :: setL r n b
@[reducible] def getS (α : Sl) (i : Nat) : Option AV := match getL α i with
  | some x => x
  | none => none
@[reducible] def setS (α : Sl) (i : Nat) (v : Option AV) : Sl := setL α i v
/-- a place: a name, a field of a place -/
inductive Pl where
  | v (i : Nat) | f (p : Pl) (c j : Nat)
@[reducible] def getP : Pl → Sl → Option AV
  | .v i, α => getS α i
  | .f p c j, α => match getP p α with
    | some (.oi d fs) => (match Nat.beq d c with
      | true => getS fs j
      | false => none)
    | _ => none
@[reducible] def setP : Pl → Sl → Option AV → Sl
  | .v i, α, w => setS α i w
  | .f p c j, α, w => match getP p α with
    | some (.oi d fs) => (match Nat.beq d c with
      | true => setP p α (some (.oi c (setS fs j w)))
      | false => α)
    | _ => α
inductive Cst where
  | non | bl (b : Bool) | int (i : Int) | str (s : T)
@[reducible] def Cst.d : Cst → D
  | .non => .non | .bl b => .bl b | .int i => .int i | .str s => .str s
inductive Op where
  | add | sub | mul | fdiv | mod | pow | shl | shr | band
inductive Cp where
  | eq | ne | lt | le | gt | ge | isin | notin | isnon | notnon
inductive Ty where
  | int | bool | str | tuple | list | dict | non
  deriving DecidableEq
/-- built-in functions of values -/
inductive Bi where
  | len | abs | max2 | min2 | maxl | minl | toInt | toStr | sum | sorted | tuple | list | dict | set | all | isinst (ts : List Ty) (cs : List Nat) | lrange | minp | sortT | dictP | sortSet | lenSet | lzip | sortK | sumT | minA | maxA | tupV | cntB | idxD | repl | repl1
/-- methods that only read -/
inductive Mt where
  | join | split | index | get | find | count | upper | replace | values | indexD
/-- methods that change -/
inductive Mu where
  | append | pop | popAt | insert | extend | clear | dpop
mutual
inductive ME where
  | cst (c : Cst)
  | pl (p : Pl)
  | bin (o : Op) (a b : ME)
  | neg (a : ME)
  | cmp (o : Cp) (a b : ME)
  | chain (o o' : Cp) (a b c : ME)
  | chain3 (o o' o'' : Cp) (a b c d : ME)
  | bitl (a : ME)
  | rev1 (a : ME)
  | and (a b : ME) | or (a b : ME) | not (a : ME)
  | ife (t a b : ME)
  | idx (a i : ME)
  | slc (a : ME) (lo hi : MO)
  | slcT (a s : ME)
  | lockE (p : Pl) (e : ME)
  | at (p : Pl) (e : ME)
  | mutA (m : Mu) (p : Pl) (e : ME) (es : MEs)
  | lstO (es : MEs)
  | frz (e : ME)
  | rev (a : ME)
  | tup (es : MEs) | lst (es : MEs) | dsp (es : MEs)
  | lc (e t : ME) (it : MI) (ifs : MEs) (own : List Nat)
  | call (f : Nat) (es : MEs)
  | mcall (f k : Nat) (a : ME) (es : MEs)
  | mkcall (f k : Nat) (pm : List Nat) (a : ME) (es : MEs)
  | kcall (f : Nat) (pm : List Nat) (es : MEs)
  | bi (b : Bi) (es : MEs)
  | meth (m : Mt) (r : ME) (es : MEs)
  | mut (m : Mu) (p : Pl) (es : MEs)
  | fld (a : ME) (j : Nat)
  | mkE (k : Nat) (es : MEs)
  | new (c : Nat)
  | lcO (e t : ME) (it : MI) (own : List Nat)
  | lcP (e : ME) (i p : Nat) (own : List Nat)
  | fmt (a : ME)
  | fstr (es : MEs)
  | strX (a : ME)
  | mkT (k : Nat) (y : T)
  | strC (a : ME)
inductive MEs where
  | nil | cons (e : ME) (r : MEs)
inductive MO where
  | none | some (e : ME)
/-- what a for walks -/
inductive MI where
  | seq (e : ME) | range (es : MEs) | enum (e : ME) | zip (a b : ME) | items (p : Pl) | keys (p : Pl) | itemsE (e : ME) | enumI (p : Pl)
end
mutual
inductive MS where
  | asg (t e : ME)
  | par (i j : Nat) (a b : ME)
  | swp (i : Nat) (a b e : ME)
  | ex (e : ME)
  | iff (t : ME) (a b : MSs)
  | for (t : ME) (it : MI) (b : MSs)
  | whl (t : ME) (b : MSs)
  | ret (e : ME)
  | retn
  | rais (c : Nat) (es : MEs)
  | tryc (b : MSs) (c : Nat) (i : Nat) (h : MSs)
  | tryA (b : MSs) (c j i : Nat)
  | pass
  | never
  | lock (p : Pl) (s : MS)
  | fby (r l o sg nm tr : Nat)
inductive MSs where
  | nil | cons (s : MS) (r : MSs)
end
mutual
def D.dep : D → Nat
  | .non => 0 | .bl _ => 0 | .int _ => 0 | .str _ => 0
  | .tup xs => depL xs + 1
  | .lst xs => depL xs + 1
  | .dct _ => 1000
  | .exc _ _ => 1000
  | .exs _ _ => 1000
def depL : List D → Nat
  | [] => 0
  | x :: r => max x.dep (depL r)
end
def depK : List (Key × D) → Nat
  | [] => 0
  | (_, x) :: r => max x.dep (depK r)
@[reducible] def getK {β : Type} (kvs : List (Key × β)) (k : Key) : Option β := match kvs with
  | [] => none
  | (j, v) :: r => if j = k then some v else getK r k
def putK {β : Type} (kvs : List (Key × β)) (k : Key) (v : β) : List (Key × β) :=
  if (kvs.any fun kv => decide (kv.1 = k)) = true then kvs.map (fun kv => if kv.1 = k then (kv.1, v) else kv) else kvs ++ [(k, v)]
def delK {β : Type} (kvs : List (Key × β)) (k : Key) : List (Key × β) := kvs.filter fun kv => decide (kv.1 ≠ k)
def b2i (b : Bool) : Int := if b then 1 else 0
mutual
/-- == of Python -/
def eqD : D → D → Bool
  | .non, .non => true
  | .bl a, .bl b => a == b
  | .bl a, .int j => decide (b2i a = j)
  | .int i, .bl b => decide (i = b2i b)
  | .int i, .int j => decide (i = j)
  | .str x, .str y => decide (x = y)
  | .lst xs, .lst ys => eqL xs ys
  | .tup xs, .tup ys => eqL xs ys
  | _, _ => false
def eqL : List D → List D → Bool
  | [], [] => true
  | x :: xs, y :: ys => eqD x y && eqL xs ys
  | _, _ => false
end
def eqK : List (Key × D) → List (Key × D) → Bool
  | [], _ => true
  | (k, x) :: r, ys => (match getK ys k with | some y => eqD x y | none => false) && eqK r ys
@[reducible] def toD : AV → Option D
  | .p d => some d
  | .ol xs => some (.lst xs)
  | .od kvs => some (.dct kvs)
  | _ => none
/-- .. as it is read -/
@[reducible] def rdD : AV → Option D
  | .p d => some d
  | .ol xs => some (.lst xs)
  | .od kvs => some (.dct kvs)
  | .ld _ kvs => some (.dct kvs)
  | .ll _ xs => some (.lst xs)
  | .oi _ _ => none
@[reducible] def key? : D → Option Key
  | .int i => some (.inl i)
  | .str s => some (.inr s)
  | _ => none
@[reducible] def kD : Key → D
  | .inl i => .int i
  | .inr s => .str s
/-- the items of a list, a tuple -/
@[reducible] def seq? : AV → Option (List D)
  | .ol xs => some xs
  | .ll _ xs => some xs
  | .p (.lst xs) => some xs
  | .p (.tup xs) => some xs
  | _ => none
@[reducible] def list? : AV → Option (List D)
  | .ol xs => some xs
  | .ll _ xs => some xs
  | .p (.lst xs) => some xs
  | _ => none
@[reducible] def dict? : AV → Option (List (Key × D))
  | .od kvs => some kvs
  | .ld _ kvs => some kvs
  | .p (.dct kvs) => some kvs
  | _ => none
/-- xs[i] -/
@[reducible] def atD {α : Type} (xs : List α) (i : Int) : Option α := match i with
  | .ofNat n => getL xs n
  | .negSucc n => if n < xs.length then getL xs (xs.length - 1 - n) else none
/-- a bound of a slice -/
def clip (n d : Nat) : Option Int → Nat
  | none => d
  | some i => if i < 0 then (i + n).toNat else min i.toNat n
def cut {α : Type} (xs : List α) (lo hi : Option Int) : List α := (xs.drop (clip xs.length 0 lo)).take (clip xs.length xs.length hi - clip xs.length 0 lo)
@[reducible] def ifB (b : Bool) (A B : Prop) : Prop := match b with
  | true => A
  | false => B
@[reducible] def onO {α : Type} (o : Option α) (k : α → Prop) : Prop := match o with
  | some x => k x
  | none => False
@[reducible] def onB (v : AV) (k : Bool → Prop) : Prop := match v with
  | .p (.bl b) => k b
  | _ => False
@[reducible] def onI (v : AV) (k : Int → Prop) : Prop := match v with
  | .p (.int i) => k i
  | _ => False
@[reducible] def onS (v : AV) (k : T → Prop) : Prop := match v with
  | .p (.str i) => k i
  | _ => False
@[reducible] def onT (v : AV) (k : List D → Prop) : Prop := match v with
  | .p (.tup i) => k i
  | _ => False
def big : Nat := 16777216
def CMul (i j : Int) : Prop := (-(2 ^ 64) < i ∧ i < 2 ^ 64) ∨ (-(2 ^ 64) < j ∧ j < 2 ^ 64)
def CShf (i j : Int) : Prop := 0 ≤ j ∧ (Builtin.Int.intBits i : Int) + j ≤ 2 ^ 27
abbrev BitsOk (ns : List Int) : Prop := ∀ z ∈ ns, Builtin.Int.intBits z ≤ 1048576
def repT (s : T) (n : Int) : T := (List.replicate n.toNat s).flatten
@[reducible] def binQ (o : Op) (x y : AV) (k : AV → Prop) : Prop := match o with
  | .add => match x with
    | .p (.int i) => onI y fun j => k (.p (.int (i + j)))
    | .p (.str s) => onS y fun t => s.length + t.length ≤ big ∧ k (.p (.str (s ++ t)))
    | .p (.tup xs) => onT y fun ys => xs.length + ys.length ≤ big ∧ k (.p (.tup (xs ++ ys)))
    | .p (.lst xs) => onO (list? y) fun ys => xs.length + ys.length ≤ big ∧ k (.ol (xs ++ ys))
    | .ol xs => onO (list? y) fun ys => xs.length + ys.length ≤ big ∧ k (.ol (xs ++ ys))
    | _ => False
  | .sub => onI x fun i => onI y fun j => k (.p (.int (i - j)))
  | .mul => match x with
    | .p (.int i) => onI y fun j => CMul i j ∧ k (.p (.int (i * j)))
    | .p (.str s) => onI y fun j => s.length * j.toNat ≤ big ∧ -1000000 ≤ j ∧ j < 1000000 ∧ k (.p (.str (repT s j)))
    | .ol xs => onI y fun j => xs.length * j.toNat ≤ big ∧ -1000000 ≤ j ∧ j < 1000000 ∧ k (.ol (List.replicate j.toNat xs).flatten)
    | _ => False
  | .fdiv => onI x fun i => onI y fun j => 0 < j ∧ j < 2 ^ 64 ∧ k (.p (.int (i / j)))
  | .mod => onI x fun i => onI y fun j => 0 < j ∧ k (.p (.int (i % j)))
  | .pow => onI x fun i => onI y fun j => match j with
    | .ofNat n => n ≤ 1000000 ∧ i.natAbs < 2 ^ 64 ∧ k (.p (.int (i ^ n)))
    | .negSucc _ => False
  | .shl => onI x fun i => onI y fun j => CShf i j ∧ k (.p (.int (i * 2 ^ j.toNat)))
  | .shr => onI x fun i => onI y fun j => 0 ≤ j ∧ k (.p (.int (i / 2 ^ j.toNat)))
  | .band => onI x fun i => onI y fun j => k (.p (.int (Builtin.bitAnd i j)))
def flatD : D → Bool
  | .non => true | .bl _ => true | .int _ => true | .str _ => true | _ => false
def inD (x : D) (xs : List D) : Bool := xs.any fun y => eqD y x
def ints? : List D → Option (List Int)
  | [] => some []
  | .int i :: r => (ints? r).map (i :: ·)
  | _ => none
def lexI : List Int → List Int → Bool
  | [], [] => false
  | [], _ :: _ => true
  | _ :: _, [] => false
  | x :: xs, y :: ys => if x = y then lexI xs ys else decide (x < y)
@[reducible] def ordQ (x y : AV) (pI : Int → Int → Bool) (pS : T → T → Bool) (k : Bool → Prop) : Prop := match x with
  | .p (.int i) => onI y fun j => k (pI i j)
  | .p (.str s) => onS y fun t => k (pS s t)
  | _ => False
/-- two data as == sees them: dicts at the top alone -/
@[reducible] def eqDQ (d e : D) (k : Bool → Prop) : Prop := match d with
  | .dct kvs => (match e with
    | .dct ws => depK kvs ≤ 180 ∧ depK ws ≤ 180 ∧ k (kvs.length == ws.length && eqK kvs ws)
    | _ => False)
  | d => d.dep ≤ 180 ∧ e.dep ≤ 180 ∧ k (eqD d e)
@[reducible] def eqQ (x y : AV) (k : Bool → Prop) : Prop := match x with
  | .p (.int i) => match y with
    | .p (.int j) => k (decide (i = j))
    | _ => onO (rdD y) fun e => e.dep ≤ 180 ∧ k (eqD (.int i) e)
  | .p (.str s) => match y with
    | .p (.str t) => k (decide (s = t))
    | _ => onO (rdD y) fun e => e.dep ≤ 180 ∧ k (eqD (.str s) e)
  | _ => onO (rdD x) fun d => onO (rdD y) fun e => eqDQ d e k
@[reducible] def inQ (x y : AV) (k : Bool → Prop) : Prop := match y with
  | .p (.str t) => onS x fun s => match s with
    | [c] => k (decide (c ∈ t))
    | _ => False
  | .od kvs => onO (toD x) fun d => onO (key? d) fun j => k (getK kvs j).isSome
  | .ld _ kvs => onO (toD x) fun d => onO (key? d) fun j => k (getK kvs j).isSome
  | .p (.dct kvs) => onO (toD x) fun d => onO (key? d) fun j => k (getK kvs j).isSome
  | _ => onO (rdD x) fun d => onO (seq? y) fun ys => d.dep ≤ 180 ∧ depL ys ≤ 180 ∧ k (inD d ys)
@[reducible] def isN : AV → Bool
  | .p .non => true
  | _ => false
@[reducible] def onN (v : AV) (A : Prop) : Prop := match v with
  | .p .non => A
  | _ => False
/-- not -/
@[reducible] def nb : Bool → Bool
  | true => false
  | false => true
theorem nb_eq : nb = not := funext fun b => by cases b <;> rfl
@[reducible] def cmpQ (o : Cp) (x y : AV) (k : Bool → Prop) : Prop := match o with
  | .eq => eqQ x y k
  | .ne => eqQ x y fun b => k (nb b)
  | .lt => match x with
    | .p (.int i) => onI y fun j => k (decide (i < j))
    | .p (.str s) => onS y fun t => k (decide (s < t))
    | .p (.tup xs) => onT y fun ys => onO (ints? xs) fun ns => onO (ints? ys) fun ms => k (lexI ns ms)
    | _ => False
  | .le => match x with
    | .p (.int i) => onI y fun j => k (decide (i ≤ j))
    | .p (.str s) => onS y fun t => k (!decide (t < s))
    | _ => False
  | .gt => match x with
    | .p (.int i) => onI y fun j => k (decide (j < i))
    | .p (.str s) => onS y fun t => k (decide (t < s))
    | _ => False
  | .ge => match x with
    | .p (.int i) => onI y fun j => k (decide (j ≤ i))
    | .p (.str s) => onS y fun t => k (!decide (s < t))
    | _ => False
  | .isin => inQ x y k
  | .notin => inQ x y fun b => k (nb b)
  | .isnon => match y with
    | .p .non => k (isN x)
    | .p (.bl true) => onB x k
    | .p (.bl false) => onB x fun b => k (nb b)
    | _ => False
  | .notnon => match y with
    | .p .non => k (nb (isN x))
    | .p (.bl true) => onB x fun b => k (nb b)
    | _ => False
@[reducible] def idxQ (a i : AV) (k : AV → Prop) : Prop := match a with
  | .p (.str s) => onI i fun j => s.length ≤ big ∧ onO (atD s j) fun c => k (.p (.str [c]))
  | .od kvs => onO (toD i) fun d => onO (key? d) fun j => onO (getK kvs j) fun v => k (.p v)
  | .ld _ kvs => onO (toD i) fun d => onO (key? d) fun j => onO (getK kvs j) fun v => k (.p v)
  | .p (.dct kvs) => onO (toD i) fun d => onO (key? d) fun j => onO (getK kvs j) fun v => k (.p v)
  | _ => onO (seq? a) fun xs => onI i fun j => onO (atD xs j) fun v => k (.p v)
@[reducible] def slcQ (a : AV) (lo hi : Option Int) (k : AV → Prop) : Prop := match a with
  | .p (.str s) => s.length ≤ big ∧ k (.p (.str (cut s lo hi)))
  | .p (.tup xs) => k (.p (.tup (cut xs lo hi)))
  | _ => onO (list? a) fun xs => k (.ol (cut xs lo hi))
/-- a[::1], a[::-1] -/
@[reducible] def slcTQ (a : AV) (i : Int) (k : AV → Prop) : Prop := onO (list? a) fun xs => (i = 1 ∧ k (.ol xs)) ∨ (i = -1 ∧ k (.ol xs.reverse))
@[reducible] def revQ (a : AV) (k : AV → Prop) : Prop := match a with
  | .p (.str s) => s.length ≤ big ∧ k (.p (.str s.reverse))
  | .p (.tup xs) => k (.p (.tup xs.reverse))
  | _ => onO (list? a) fun xs => k (.ol xs.reverse)
def strs? : List D → Option (List T)
  | [] => some []
  | .str i :: r => (strs? r).map (i :: ·)
  | _ => none
def bls? : List D → Option (List Bool)
  | [] => some []
  | .bl i :: r => (bls? r).map (i :: ·)
  | _ => none
/-- the order that sorted follows: ints, texts, tuples of such (by the first place that differs) -/
def ltD : D → D → Bool
  | .int i, .int j => decide (i < j)
  | .str s, .str t => decide (s < t)
  | .tup xs, .tup ys => ltL xs ys
  | _, _ => false
where
  ltL : List D → List D → Bool
  | [], [] => false
  | [], _ :: _ => true
  | _ :: _, [] => false
  | x :: r, y :: q => if eqD x y then ltL r q else ltD x y
end Am

namespace Am
open PySem
abbrev XP := Nat → List D → Sl → Prop
abbrev VP := AV → Sl → Prop
abbrev FP := AV → List (Option AV) → Prop
abbrev FX := Nat → List D → List (Option AV) → Prop
structure Ctx where
  call : Nat → List AV → FP → FX → Prop
  /-- which parameters the def itself stores to -/
  sig : Nat → List Bool
  /-- is the exception class c one of the class d -/
  sub : Nat → Nat → Bool
  /-- a class: the fields of a new one -/
  cls : Nat → Option Sl
@[reducible] def frz? : AV → Option AV
  | .p d => some (.p d)
  | .ol xs => some (.p (.lst xs))
  | .od kvs => some (.p (.dct kvs))
  | _ => none
/-- a name or field as a value: what it holds is data from then on -/
@[reducible] def plQ (p : Pl) (α : Sl) (Q : VP) : Prop := match getP p α with
  | some (.p d) => Q (.p d) α
  | some v => onO (frz? v) fun w => Q w (setP p α (some w))
  | none => False
/-- an operand that is a place: by the value that is held for it -/
@[reducible] def plOf (a : ME) (x : AV) : Option Pl := match a with
  | .pl p => some p
  | .at p _ => (match x with
    | .p (.int (.ofNat n)) => some (.f p 0 n)
    | _ => none)
  | _ => none
@[reducible] def onNat (v : AV) (k : Nat → Prop) : Prop := match v with
  | .p (.int (.ofNat n)) => k n
  | _ => False
@[reducible] def onOi (v : AV) (c : Nat) (A : Prop) : Prop := match v with
  | .oi d _ => (match Nat.beq d c with
    | true => A
    | false => False)
  | _ => False
/-- an operand: names are looked at when it is used -/
@[reducible] def pre (a : ME) (w : Sl → VP → Prop) (α : Sl) (k : VP) : Prop := match a with
  | .pl p => onO (getP p α) fun _ => k (.p .non) α
  | _ => w α k
@[reducible] def fetch (a : ME) (x : AV) (α : Sl) (k : AV → Prop) : Prop := match plOf a x with
  | some p => onO (getP p α) k
  | none => k x
@[reducible] def readA : MEs → List AV → Sl → (List AV → Prop) → Prop
  | .nil, _, _, k => k []
  | .cons e r, x :: xs, α, k => fetch e x α fun y => readA r xs α fun ys => k (y :: ys)
  | .cons _ _, [], _, _ => False
/-- the slots are reckoned out -/
@[reducible] def frc : Sl → (Sl → Prop) → Prop
  | [], k => k []
  | a :: r, k => frc r fun q => k (a :: q)
theorem frc_eq : ∀ (α : Sl) (k : Sl → Prop), frc α k = k α
  | [], _ => rfl
  | a :: r, k => frc_eq r fun q => k (a :: q)
@[reducible] def isP : AV → Bool
  | .p _ => true
  | _ => false
@[reducible] def tlB : List Bool → List Bool
  | [] => []
  | _ :: r => r
/-- the arguments of a call: objects are handed over -/
@[reducible] def takeA : List Bool → MEs → List AV → Sl → (List AV → Sl → Prop) → Prop
  | _, .nil, _, α, k => k [] α
  | sg, .cons a r, x :: xs, α, k => match plOf a x with
    | some p => onO (getP p α) fun v => match v with
      | .p d => takeA (tlB sg) r xs α fun ys α' => k (.p d :: ys) α'
      | v => match sg with
        | true :: _ => onO (frz? v) fun w => takeA (tlB sg) r xs (setP p α (some w)) fun ys α' => k (w :: ys) α'
        | _ => takeA (tlB sg) r xs (setP p α none) fun ys α' => k (v :: ys) α'
    | none => takeA (tlB sg) r xs α fun ys α' => k (x :: ys) α'
  | _, .cons _ _, [], _, _ => False
/-- .. and handed back: xs is what was held for the operands -/
@[reducible] def backA : MEs → List AV → List AV → List (Option AV) → Sl → Sl
  | .cons a r, x :: xs, v :: vs, w :: ws, α => match plOf a x with
    | some p => (match v with
      | .p _ => backA r xs vs ws α
      | _ => backA r xs vs ws (setP p α w))
    | none => backA r xs vs ws α
  | _, _, _, _, α => α
@[reducible] def someL : List AV → Sl
  | [] => []
  | v :: r => some v :: someL r
mutual
/-- data, through and through -/
@[reducible] def deepD : AV → Option D
  | .p d => some d
  | .ol xs => some (.lst xs)
  | .od kvs => some (.dct kvs)
  | .oi 0 fs => (match deepL fs with
    | some ds => some (.lst ds)
    | none => none)
  | .oi 1 fs => (match deepL fs with
    | some ds => some (.tup ds)
    | none => none)
  | _ => none
@[reducible] def deepL : Sl → Option (List D)
  | [] => some []
  | none :: _ => none
  | some v :: r => match deepD v, deepL r with
    | some d, some q => some (d :: q)
    | _, _ => none
end
@[reducible] def toDs : List AV → Option (List D)
  | [] => some []
  | v :: r => match toD v, toDs r with
    | some d, some q => some (d :: q)
    | _, _ => none
@[reducible] def dats? : List AV → Option (List D)
  | [] => some []
  | .p d :: r => match dats? r with
    | some q => some (d :: q)
    | none => none
  | _ :: _ => none
@[reducible] def permA : List Nat → List D → Option (List AV)
  | [], _ => some []
  | j :: r, ds => match getL ds j, permA r ds with
    | some d, some q => some (.p d :: q)
    | _, _ => none
@[reducible] def lenQ (x : AV) (k : Int → Prop) : Prop := match x with
  | .p (.str s) => s.length ≤ big ∧ k s.length
  | .od kvs => k kvs.length
  | .ld _ kvs => k kvs.length
  | .p (.dct kvs) => k kvs.length
  | x => onO (seq? x) fun xs => k xs.length
def rangeD (lo hi : Int) : List D := (List.range (hi - lo).toNat).map fun i => .int (lo + (i : Nat))
def rangeN (lo hi : Int) : List D := (List.range (lo - hi).toNat).map fun i => .int (lo + (i : Nat) * (-1))
@[reducible] def enumD (k : Int) : List D → List D
  | [] => []
  | x :: r => .tup [.int k, x] :: enumD (k + 1) r
@[reducible] def zipD : List D → List D → List D
  | x :: r, y :: q => .tup [x, y] :: zipD r q
  | _, _ => []
@[reducible] def itemsD : List (Key × D) → List D
  | [] => []
  | (k, v) :: r => .tup [kD k, v] :: itemsD r
@[reducible] def keysD : List (Key × D) → List D
  | [] => []
  | (k, _) :: r => kD k :: keysD r
@[reducible] def valsD : List (Key × D) → List D
  | [] => []
  | (_, v) :: r => v :: valsD r
@[reducible] def charsD : T → List D
  | [] => []
  | c :: r => .str [c] :: charsD r
def pairs? : List D → Option (List (Key × D))
  | [] => some []
  | .tup [k, v] :: r => match key? k with
    | some j => (pairs? r).map ((j, v) :: ·)
    | none => none
  | _ => none
def mergeD (kvs more : List (Key × D)) : List (Key × D) := more.foldl (fun acc kv => putK acc kv.1 kv.2) kvs
def decT (i : Int) : T := (toString i : String).toList.map Char.toNat
@[reducible] def tyD : AV → Option Ty
  | .p .non => some .non
  | .p (.bl _) => some .bool
  | .p (.int _) => some .int
  | .p (.str _) => some .str
  | .p (.tup _) => some .tuple
  | .p (.lst _) => some .list
  | .ol _ => some .list
  | .p (.dct _) => some .dict
  | .od _ => some .dict
  | .ld _ _ => some .dict
  | .ll _ _ => some .list
  | _ => none
@[reducible] def tySub : Ty → Ty → Bool
  | .int, .int => true
  | .bool, .bool => true
  | .bool, .int => true
  | .str, .str => true
  | .tuple, .tuple => true
  | .list, .list => true
  | .dict, .dict => true
  | .non, .non => true
  | _, _ => false
@[reducible] def anyT (t : Ty) : List Ty → Bool
  | [] => false
  | u :: r => match tySub t u with
    | true => true
    | false => anyT t r
/-- sorted(xs): any list that is so ordered, by the items' order, with the same items -/
def ltB (x y : D) : Bool := ltD x y
def isInt : D → Bool
  | .int _ => true | _ => false
def isStr : D → Bool
  | .str _ => true | _ => false
def okSort (xs : List D) : Bool := xs.all isInt
def insD (x : D) : List D → List D
  | [] => [x]
  | y :: r => if ltB x y then x :: y :: r else y :: insD x r
def sortD : List D → List D
  | [] => []
  | x :: r => insB x (sortD r)
where insB (x : D) : List D → List D
  | [] => [x]
  | y :: r => if ltB y x then y :: insB x r else x :: y :: r
/-- may the items be sorted: ints, texts, or tuples of one shape of these -/
def sameShape : D → D → Bool
  | .int _, .int _ => true
  | .str _, .str _ => true
  | .tup xs, .tup ys => shapes xs ys
  | _, _ => false
where shapes : List D → List D → Bool
  | [], [] => true
  | x :: r, y :: q => sameShape x y && shapes r q
  | _, _ => false
def shapeAll : List D → Bool
  | [] => true
  | x :: r => (x :: r).all (sameShape x)
def joinT (sep : T) : List T → T
  | [] => []
  | [x] => x
  | x :: r => x ++ sep ++ joinT sep r
def joinN (sep : T) (ss : List T) : Nat := (ss.map List.length).sum + ss.length * sep.length
def setList (xs : List D) : List D := xs.foldl (fun acc x => if acc.any (fun y => eqD y x) then acc else acc ++ [x]) []
/-- pairs of whole numbers -/
def pairs2? : List D → Option (List (Int × Int))
  | [] => some []
  | .tup [.int i, .int j] :: r => (pairs2? r).map ((i, j) :: ·)
  | _ => none
/-- rows that may be sorted -/
def isRow : D → Bool
  | .tup (_ :: _) => true
  | _ => false
def SrtOk (xs : List D) : Prop := (∀ x ∈ xs, ∀ y ∈ xs, sameShape x y = true) ∧ (xs.all isRow = true ∨ xs.all isStr = true) ∧ depL xs ≤ 180
def leD (x y : D) : Prop := ltD y x = false
def le2 (p q : Int × Int) : Prop := p.1 < q.1 ∨ (p.1 = q.1 ∧ p.2 ≤ q.2)
@[reducible] def anyK (f : Nat → Bool) : List Nat → Bool
  | [] => false
  | d :: r => match f d with
    | true => true
    | false => anyK f r
/-- the texts of a dict's keys, a tuple, a list -/
@[reducible] def txs? : AV → Option (List T)
  | .od kvs => strs? (keysD kvs)
  | .ld _ kvs => strs? (keysD kvs)
  | .p (.dct kvs) => strs? (keysD kvs)
  | .p (.tup xs) => strs? xs
  | .p (.lst xs) => strs? xs
  | .ol xs => strs? xs
  | .ll _ xs => strs? xs
  | _ => none
def idxD (x : D) : List D → Option Nat
  | [] => none
  | y :: r => if eqD y x then some 0 else (idxD x r).map (· + 1)
/-- each sign c, or the first one, gives way to n -/
def replT (c : Nat) (n : T) : T → T
  | [] => []
  | x :: r => (if x = c then n else [x]) ++ replT c n r
def replT1 (c : Nat) (n : T) : T → T
  | [] => []
  | x :: r => if x = c then n ++ r else x :: replT1 c n r
@[reducible] def biQ (c : Ctx) (b : Bi) (vs : List AV) (k : AV → Prop) : Prop := match b, vs with
  | .len, [x] => lenQ x fun n => k (.p (.int n))
  | .abs, [x] => onI x fun i => k (.p (.int (if i < 0 then -i else i)))
  | .max2, [x, y] => onI x fun i => onI y fun j => k (.p (.int (max i j)))
  | .min2, [x, y] => onI x fun i => onI y fun j => k (.p (.int (min i j)))
  | .maxl, [x] => onO (list? x) fun xs => onO (ints? xs) fun ns => 0 < ns.length ∧ ∀ m, m ∈ ns → (∀ y ∈ ns, y ≤ m) → k (.p (.int m))
  | .minl, [x] => onO (list? x) fun xs => onO (ints? xs) fun ns => 0 < ns.length ∧ ∀ m, m ∈ ns → (∀ y ∈ ns, m ≤ y) → k (.p (.int m))
  | .minp, [x] => onO (list? x) fun xs => onO (pairs2? xs) fun ps => 0 < ps.length ∧ ∀ p, p ∈ ps → (∀ q ∈ ps, le2 p q) → k (.p (.tup [.int p.1, .int p.2]))
  | .toInt, [x] => match x with
    | .p (.int i) => k (.p (.int i))
    | .p (.bl b) => k (.p (.int (b2i b)))
    | .p (.str s) => ∃ n : Int, PySem.intText? ⟨s.toArray⟩ = some n ∧ s.length ≤ 640 ∧ k (.p (.int n))
    | _ => False
  | .toStr, [x] => match x with
    | .p (.int i) => i.natAbs.log2 < 1920 ∧ k (.p (.str (decT i)))
    | .p (.str s) => k (.p (.str s))
    | _ => False
  | .sum, [x] => onO (list? x) fun xs => onO (ints? xs) fun ns => k (.p (.int ns.sum))
  | .sumT, [x] => onO (seq? x) fun xs => onO (ints? xs) fun ns => k (.p (.int ns.sum))
  | .sortT, [x] => onO (list? x) fun xs => SrtOk xs ∧ ∀ zs : List D, zs.Perm xs → zs.Pairwise leD → k (.ol zs)
  | .minA, [x] => onO (list? x) fun xs => 0 < xs.length ∧ SrtOk xs ∧ ∀ p, p ∈ xs → (∀ q ∈ xs, leD p q) → k (.p p)
  | .maxA, [x] => onO (list? x) fun xs => 0 < xs.length ∧ SrtOk xs ∧ ∀ p, p ∈ xs → (∀ q ∈ xs, leD q p) → k (.p p)
  | .sorted, [x] => onO (list? x) fun xs => okSort xs = true ∧ k (.ol (sortD xs))
  | .tuple, [x] => onO (seq? x) fun xs => k (.p (.tup xs))
  | .list, [x] => match dict? x with
    | some kvs => k (.ol (keysD kvs))
    | none => onO (seq? x) fun xs => k (.ol xs)
  | .dict, [x] => onO (dict? x) fun kvs => k (.od kvs)
  | .dictP, [x] => onO (list? x) fun xs => onO (pairs? xs) fun kvs => k (.od (mergeD [] kvs))
  | .sortSet, [x] => onO (list? x) fun xs => onO (ints? xs) fun ns => ns.length ≤ 900 ∧ ∀ ms : List Int, ms.Pairwise (· < ·) → (∀ y, y ∈ ms ↔ y ∈ ns) → k (.ol (ms.map .int))
  | .lenSet, [x] => onO (seq? x) fun xs => onO (strs? xs) fun ns => ns.length ≤ 900 ∧ ∀ c : Nat, c ≤ ns.length → (c = ns.length ↔ ns.Nodup) → k (.p (.int c))
  | .sortK, [x] => onO (txs? x) fun ns => ns.length < 64 ∧ ∀ zs : List D, zs.Perm (ns.map .str) → zs.Pairwise leD → k (.ol zs)
  | .tupV, [x] => match x with
    | .od kvs => k (.p (.tup (kvs.map (·.2))))
    | _ => False
  | .lzip, [x, y] => onO (list? x) fun xs => onO (list? y) fun ys => k (.ol (zipD xs ys))
  | .all, [x] => onO (list? x) fun xs => onO (bls? xs) fun bs => k (.p (.bl (bs.all id)))
  | .isinst ts cs, [x] => match x with
    | .p (.exc e _) => (match ts with
      | [] => k (.p (.bl (anyK (c.sub e) cs)))
      | _ => False)
    | .p (.exs e _) => (match ts with
      | [] => k (.p (.bl (anyK (c.sub e) cs)))
      | _ => False)
    | .p .non => (match ts with
      | [] => k (.p (.bl false))
      | _ => k (.p (.bl (anyT .non ts))))
    | x => (match ts with
      | [] => False
      | _ => onO (tyD x) fun t => k (.p (.bl (anyT t ts))))
  | .cntB, [x, y] => onO (list? x) fun xs => onO (bls? xs) fun bs => onB y fun b => k (.p (.int ((bs.filter fun z => z == b).length : Nat)))
  | .idxD, [x, y] => onO (seq? x) fun xs => onO (toD y) fun d => d.dep ≤ 180 ∧ depL xs ≤ 180 ∧ onO (Am.idxD d xs) fun i => k (.p (.int i))
  | .repl, [x, y, z] => onS x fun a => onS y fun b => onS z fun n => match b with
    | [o] => (replT o n a).length ≤ big ∧ k (.p (.str (replT o n a)))
    | _ => False
  | .repl1, [x, y, z] => onS x fun a => onS y fun b => onS z fun n => match b with
    | [o] => (replT1 o n a).length ≤ big ∧ k (.p (.str (replT1 o n a)))
    | _ => False
  | .lrange, [x, y] => onI x fun i => onI y fun j => (-(2 ^ 62) ≤ i ∧ i < 2 ^ 62 ∧ -(2 ^ 62) ≤ j ∧ j < 2 ^ 62 ∧ (j - i).toNat ≤ 2 ^ 24) ∧ k (.ol (rangeD i j))
  | _, _ => False
def countD (x : D) (xs : List D) : Nat := (xs.filter fun y => eqD y x).length
def idxT (x : T) : List T → Option Nat
  | [] => none
  | y :: r => if y = x then some 0 else (idxT x r).map (· + 1)
/-- a text's parts between signs c -/
def splT (c : Nat) : T → T → List T
  | acc, [] => [acc]
  | acc, x :: r => if x = c then acc :: splT c [] r else splT c (acc ++ [x]) r
@[reducible] def methQ (m : Mt) (r : AV) (vs : List AV) (k : AV → Prop) : Prop := match m, vs with
  | .join, [x] => onS r fun sep => onO (seq? x) fun xs => onO (strs? xs) fun ss => joinN sep ss ≤ big ∧ k (.p (.str (joinT sep ss)))
  | .split, [x] => onS r fun a => onS x fun b => match b with
    | [c] => c < 256 ∧ a.length + 2 ≤ big ∧ k (.ol ((splT c [] a).map .str))
    | _ => False
  | .index, [x] => match r with
    | .p (.tup xs) => onS x fun z => onO (strs? xs) fun ss => onO (idxT z ss) fun i => k (.p (.int i))
    | r => onO (list? r) fun xs => onO (toD x) fun d => flatD d = true ∧ xs.all flatD = true ∧ onO (idxD d xs) fun i => k (.p (.int i))
  | .get, [x, y] => onO (dict? r) fun kvs => onO (toD x) fun d => onO (key? d) fun j => match y with
    | .p e => k (.p (match getK kvs j with | some v => v | none => e))
    | _ => False
  | .indexD, [x] => onO (seq? r) fun xs => onO (toD x) fun d => d.dep ≤ 180 ∧ depL xs ≤ 180 ∧ onO (idxD d xs) fun i => k (.p (.int i))
  | .count, [x] => onO (list? r) fun xs => onO (toD x) fun d => d.dep ≤ 180 ∧ depL xs ≤ 180 ∧ k (.p (.int (countD d xs : Nat)))
  | .upper, [] => match r with
    | .p (.str s) => s.length ≤ 1000000 ∧ ∀ t : T, t.length ≤ 3 * s.length → k (.p (.str t))
    | _ => False
  | _, _ => False
/-- of which built-in type -/
inductive Kn where
  | l | d | t | s | o
@[reducible] def kindA : AV → Kn
  | .p (.str _) => .s
  | .p (.tup _) => .t
  | .p (.lst _) => .l
  | .p (.dct _) => .d
  | .ol _ => .l
  | .ll _ _ => .l
  | .od _ => .d
  | .ld _ _ => .d
  | _ => .o
@[reducible] def onSame (a b : Kn) (A : Prop) : Prop := match a, b with
  | .l, .l => A
  | .d, .d => A
  | .t, .t => A
  | .s, .s => A
  | _, _ => False
@[reducible] def onLT (a b : Kn) (A : Prop) : Prop := match a, b with
  | .l, .l => A
  | .t, .t => A
  | _, _ => False
@[reducible] def onMu (m : Mu) (k : Kn) (A : Prop) : Prop := match m, k with
  | .append, .l => A
  | .extend, .l => A
  | .pop, .l => A
  | .popAt, .l => A
  | .insert, .l => A
  | .clear, .l => A
  | .clear, .d => A
  | .dpop, .d => A
  | _, _ => False
@[reducible] def onMt (m : Mt) (k : Kn) (A : Prop) : Prop := match m, k with
  | .join, .s => A
  | .index, .l => A
  | .index, .t => A
  | .indexD, .l => A
  | .indexD, .t => A
  | .count, .l => A
  | .get, .d => A
  | .upper, .s => A
  | .split, .s => A
  | _, _ => False
@[reducible] def mutQ (m : Mu) (o : AV) (vs : List AV) (k : AV → AV → Prop) : Prop := match m, o, vs with
  | .append, .ol xs, [x] => onO (toD x) fun d => xs.length < big ∧ k (.p .non) (.ol (xs ++ [d]))
  | .extend, .ol xs, [.ol ys] => xs.length + ys.length ≤ big ∧ k (.p .non) (.ol (xs ++ ys))
  | .extend, .ol xs, [.p (.tup ys)] => xs.length + ys.length ≤ big ∧ k (.p .non) (.ol (xs ++ ys))
  | .pop, .ol xs, [] => onO (getL xs (xs.length - 1)) fun d => k (.p d) (.ol xs.dropLast)
  | .popAt, .ol xs, [x] => onI x fun i => match i with
    | .ofNat n => onO (getL xs n) fun d => k (.p d) (.ol (xs.eraseIdx n))
    | .negSucc _ => False
  | .insert, .ol xs, [x, y] => onI x fun i => onO (toD y) fun d => 0 ≤ i ∧ i ≤ xs.length ∧ xs.length < big ∧ k (.p .non) (.ol (xs.insertIdx i.toNat d))
  | .clear, .ol _, [] => k (.p .non) (.ol [])
  | .clear, .od _, [] => k (.p .non) (.od [])
  | .dpop, .od kvs, [x] => onO (toD x) fun d => onO (key? d) fun j => onO (getK kvs j) fun v => k (.p v) (.od (delK kvs j))
  | _, _, _ => False
@[reducible] def putQ (o i v : AV) (k : AV → Prop) : Prop := match o with
  | .ol xs => onI i fun j => onO (toD v) fun d => match j with
    | .ofNat n => onO (getL xs n) fun _ => k (.ol (setL xs n d))
    | .negSucc n => n < xs.length ∧ k (.ol (setL xs (xs.length - 1 - n) d))
  | .od kvs => onO (toD i) fun e => onO (key? e) fun j => onO (toD v) fun d => kvs.length < big ∧ k (.od (putK kvs j d))
  | _ => False
@[reducible] def dat (own : List Nat) (α β : Sl) : Sl := match own with
  | [] => β
  | i :: r => match getS α i with
    | some (.p d) => setS (dat r α β) i (some (.p d))
    | _ => dat r α β
@[reducible] def wipe (own : List Nat) (α : Sl) : Sl := match own with
  | [] => α
  | i :: r => setS (wipe r α) i none
@[reducible] def loopW (g : D → Sl → (Sl → Prop) → Prop) (w : Sl → (Sl → Prop) → Prop) (gd : Sl → Prop) : List D → Sl → (Sl → Prop) → Prop
  | [], α, k => gd α ∧ k α
  | x :: r, α, k => gd α ∧ g x α fun α1 => w α1 fun α2 => loopW g w gd r α2 k
@[reducible] def loopC (own : List Nat) (g : D → Sl → (Sl → Prop) → Prop) (t : Sl → (Bool → Sl → Prop) → Prop) (e : Sl → VP → Prop) (gd : Sl → Prop) : List D → List D → Sl → (List D → Sl → Prop) → Prop
  | [], acc, α, k => gd α ∧ k acc α
  | x :: r, acc, α, k => gd α ∧ g x α fun α1 => t α1 fun b α2 => ifB b
      (e α2 fun v α3 => onO (toD v) fun d => loopC own g t e gd r (acc ++ [d]) (wipe own α3) k)
      (loopC own g t e gd r acc (wipe own α2) k)
@[reducible] def loopO (own : List Nat) (g : D → Sl → (Sl → Prop) → Prop) (e : Sl → VP → Prop) (gd : Sl → Prop) : List D → List AV → Sl → (List AV → Sl → Prop) → Prop
  | [], acc, α, k => gd α ∧ k acc α
  | x :: r, acc, α, k => gd α ∧ g x α fun α1 => e α1 fun v α2 => loopO own g e gd r (acc ++ [v]) (wipe own α2) k
/-- a list of objects is walked: the item goes to slot i, and back -/
@[reducible] def loopP (i p : Nat) (e : Sl → VP → Prop) : Nat → Nat → List D → Sl → (List D → Sl → Prop) → Prop
  | 0, _, acc, α, k => k acc α
  | n + 1, j, acc, α, k => onO (getP (.f (.v p) 0 j) α) fun v => e (setS (setP (.f (.v p) 0 j) α none) i (some v)) fun d α2 => onO (toD d) fun d => onO (getS α2 i) fun v2 => loopP i p e n (j + 1) (acc ++ [d]) (setP (.f (.v p) 0 j) (setS α2 i none) (some v2)) k
/-- the texts of what is there -/
@[reducible] def strsA : List AV → Option (List T)
  | [] => some []
  | .p (.str s) :: r => (match strsA r with
    | some q => some (s :: q)
    | none => none)
  | _ => none
/-- forest_by's going along the signs: names left, what is open -/
def fbW : T → List D → List (D × List D) → (D → Prop) → Prop
  | [], _, st, k => match st with
    | [(_, ts)] => k (.tup ts)
    | _ => False
  | c :: r, left, st, k => if c = 40 then (match left with
      | x :: l => fbW r l ((x, []) :: st) k
      | [] => False) else (match st with
      | (n, ts) :: (m, us) :: q => fbW r left ((m, us ++ [.tup [n, .tup ts]]) :: q) k
      | _ => False)
/-- a while: n turns are enough -/
def loopN (t : Sl → (Bool → Sl → Prop) → Prop) (w : Sl → (Sl → Prop) → Prop) : Nat → Sl → (Sl → Prop) → Prop
  | 0, _, _ => False
  | n + 1, α, k => t α fun b α1 => ifB b (w α1 fun α2 => loopN t w n α2 k) (k α1)
mutual
@[reducible] def wpG : ME → D → Sl → (Sl → Prop) → Prop
  | .pl (.v i), d, α, k => k (setS α i (some (.p d)))
  | .tup ts, d, α, k => match d with
    | .tup ds => wpGs ts ds α k
    | _ => False
  | .lst ts, d, α, k => match d with
    | .lst ds => wpGs ts ds α k
    | _ => False
  | _, _, _, _ => False
@[reducible] def wpGs : MEs → List D → Sl → (Sl → Prop) → Prop
  | .nil, [], α, k => k α
  | .cons t r, d :: ds, α, k => wpG t d α fun α1 => wpGs r ds α1 k
  | _, _, _, _ => False
end
/-- keys and values in turn -/
@[reducible] def pairV : List AV → Option (List (Key × D))
  | [] => some []
  | k :: v :: r => match toD k, toD v, pairV r with
    | some d, some e, some q => (match key? d with
      | some j => some ((j, e) :: q)
      | none => none)
    | _, _, _ => none
  | _ => none
abbrev IK := List D → (Sl → Prop) → (Sl → Sl) → Sl → Prop
@[reducible] def srcV (v : AV) (k : List D → Prop) : Prop := match v with
  | .p (.str s) => k (charsD s)
  | v => onO (seq? v) k
/-- a list that is walked in a name is held fast meanwhile -/
@[reducible] def srcQ (a : ME) (x : AV) (α : Sl) (k : IK) : Prop := match plOf a x with
  | some p => (match getP p α with
    | some (.ol xs) => ∀ tok, k xs (fun β => getP p β = some (.ll tok xs)) (fun β => setP p β (some (.ol xs))) (setP p α (some (.ll tok xs)))
    | some (.ll tok xs) => k xs (fun β => getP p β = some (.ll tok xs)) (fun β => β) α
    | some v => srcV v fun xs => k xs (fun _ => True) (fun β => β) α
    | none => False)
  | none => srcV x fun xs => k xs (fun _ => True) (fun β => β) α
/-- a dict that is walked is held fast -/
@[reducible] def srcD (p : Pl) (α : Sl) (f : List (Key × D) → List D) (k : IK) : Prop := match getP p α with
  | some (.ld tok kvs) => k (f kvs) (fun β => getP p β = some (.ld tok kvs)) (fun β => β) α
  | _ => False
mutual
@[reducible] def nlV : AV → Prop
  | .ld _ _ => False
  | .oi _ fs => noLd fs
  | _ => True
@[reducible] def nl : Option AV → Prop
  | none => True
  | some v => nlV v
@[reducible] def noLd : Sl → Prop
  | [] => True
  | x :: r => nl x ∧ noLd r
end
/-- what an exception may be made of -/
@[reducible] def raisOk : Nat → List D → Prop
  | 1, [.int i] => 0 ≤ i ∧ i < 1000
  | 2, [.str s] => s.length ≤ 1000
  | 3, [.tup [.str s, .str t]] => (s.length ≤ 1000 ∧ t.length ≤ 1000) ∧ (∀ c ∈ s, c < 1000) ∧ ∀ c ∈ t, c < 1000
  | 4, [] => True
  | 5, [] => True
  | _, _ => False
mutual
@[reducible] def wpE (c : Ctx) : ME → Sl → VP → XP → Prop
  | .cst k, α, Q, _ => Q (.p k.d) α
  | .pl p, α, Q, _ => plQ p α Q
  | .bin o a b, α, Q, X => pre a (fun α k => wpE c a α k X) α fun x α1 => pre b (fun α k => wpE c b α k X) α1 fun y α2 =>
      fetch a x α2 fun x => fetch b y α2 fun y => binQ o x y fun v => Q v α2
  | .neg a, α, Q, X => pre a (fun α k => wpE c a α k X) α fun x α1 => fetch a x α1 fun x => onI x fun i => Q (.p (.int (-i))) α1
  | .cmp o a b, α, Q, X => pre a (fun α k => wpE c a α k X) α fun x α1 => pre b (fun α k => wpE c b α k X) α1 fun y α2 =>
      fetch a x α2 fun x => fetch b y α2 fun y => cmpQ o x y fun r => Q (.p (.bl r)) α2
  | .chain o o' a b d, α, Q, X => pre a (fun α k => wpE c a α k X) α fun x α1 => pre b (fun α k => wpE c b α k X) α1 fun y α2 =>
      fetch a x α2 fun x' => fetch b y α2 fun y' => cmpQ o x' y' fun r => ifB r
        (pre d (fun α k => wpE c d α k X) α2 fun z α3 => fetch b y α3 fun y' => fetch d z α3 fun z => cmpQ o' y' z fun r => Q (.p (.bl r)) α3)
        (Q (.p (.bl false)) α2)
  | .chain3 o o' o'' a b d e, α, Q, X => pre a (fun α k => wpE c a α k X) α fun x α1 => pre b (fun α k => wpE c b α k X) α1 fun y α2 =>
      fetch a x α2 fun x' => fetch b y α2 fun y' => cmpQ o x' y' fun r => ifB r
        (pre d (fun α k => wpE c d α k X) α2 fun z α3 => fetch b y α3 fun y' => fetch d z α3 fun z' => cmpQ o' y' z' fun r => ifB r
          (pre e (fun α k => wpE c e α k X) α3 fun u α4 => fetch d z α4 fun z' => fetch e u α4 fun u' => cmpQ o'' z' u' fun r => Q (.p (.bl r)) α4)
          (Q (.p (.bl false)) α3))
        (Q (.p (.bl false)) α2)
  | .bitl a, α, Q, X => pre a (fun α k => wpE c a α k X) α fun x α1 => fetch a x α1 fun x => onI x fun i => Q (.p (.int (Builtin.Int.intBits i : Nat))) α1
  | .rev1 a, α, Q, X => pre a (fun α k => wpE c a α k X) α fun x α1 => fetch a x α1 fun x => onO (list? x) fun xs => Q (.ol (xs.drop 1).reverse) α1
  | .and a b, α, Q, X => wpE c a α (fun x α1 => onB x fun r => ifB r (wpE c b α1 Q X) (Q (.p (.bl false)) α1)) X
  | .or a b, α, Q, X => wpE c a α (fun x α1 => onB x fun r => ifB r (Q (.p (.bl true)) α1) (wpE c b α1 Q X)) X
  | .not a, α, Q, X => wpE c a α (fun x α1 => onB x fun r => Q (.p (.bl (nb r))) α1) X
  | .ife t a b, α, Q, X => wpE c t α (fun x α1 => onB x fun r => ifB r (wpE c a α1 Q X) (wpE c b α1 Q X)) X
  | .idx a i, α, Q, X => pre a (fun α k => wpE c a α k X) α fun x α1 => pre i (fun α k => wpE c i α k X) α1 fun y α2 =>
      fetch a x α2 fun x => fetch i y α2 fun y => idxQ x y fun v => Q v α2
  | .slc a lo hi, α, Q, X => pre a (fun α k => wpE c a α k X) α fun x α1 => wpO c lo α1 (fun l α2 => wpO c hi α2 (fun h α3 =>
      fetch a x α3 fun x => slcQ x l h fun v => Q v α3) X) X
  | .lockE i e, α, Q, X => match getP i α with
    | some (.od kvs) => ∀ tok, wpE c e (setP i α (some (.ld tok kvs))) (fun v β => getP i β = some (.ld tok kvs) ∧ noLd (setP i β none) ∧ nlV v ∧ frc (setP i β (some (.od kvs))) (Q v)) (fun _ _ _ => False)
    | some (.ld _ _) => wpE c e α Q X
    | some (.p (.dct kvs)) => ∀ tok, wpE c e (setP i α (some (.ld tok kvs))) (fun v β => getP i β = some (.ld tok kvs) ∧ noLd (setP i β none) ∧ nlV v ∧ frc (setP i β (some (.p (.dct kvs)))) (Q v)) (fun _ _ _ => False)
    | _ => False
  | .slcT a s, α, Q, X => pre a (fun α k => wpE c a α k X) α fun x α1 => wpE c s α1 (fun v α2 => onI v fun i => fetch a x α2 fun x => slcTQ x i fun v => Q v α2) X
  | .rev a, α, Q, X => pre a (fun α k => wpE c a α k X) α fun x α1 => fetch a x α1 fun x => revQ x fun v => Q v α1
  | .tup es, α, Q, X => wpEs c es α (fun vs α1 => onO (toDs vs) fun ds => ds.length ≤ big ∧ Q (.p (.tup ds)) α1) X
  | .lst es, α, Q, X => wpEs c es α (fun vs α1 => onO (toDs vs) fun ds => ds.length ≤ big ∧ Q (.ol ds) α1) X
  | .dsp es, α, Q, X => wpEs c es α (fun vs α1 => onO (pairV vs) fun kvs => kvs.length ≤ 15 ∧ Q (.od (mergeD [] kvs)) α1) X
  | .lc e t it ifs own, α, Q, X => wpI c it α (fun xs gd ex α1 => xs.length ≤ big ∧ loopC own (fun d β k => wpG t d β k) (fun β k => wpT c ifs β k) (fun β k => wpE c e β k fun _ _ _ => False)
      gd xs [] (wipe own α1) fun ys α2 => Q (.ol ys) (dat own α1 (wipe own (ex α2)))) X
  | .call f es, α, Q, X => wpEl c es α (fun vs α1 => takeA (c.sig f) es vs α1 fun as α2 => c.call f as (fun r ws => frc (backA es vs as ws α2) (Q r)) (fun e ds ws => X e ds (backA es vs as ws α2))) X
  | .mcall f k a es, α, Q, X => pre a (fun α k => wpE c a α k X) α fun x α1 => fetch a x α1 fun o => onOi o (k + 2) (wpEl c es α1 (fun vs α2 => takeA (c.sig f) (.cons a es) (x :: vs) α2 fun as α3 =>
      c.call f as (fun r ws => frc (backA (.cons a es) (x :: vs) as ws α3) (Q r)) (fun e ds ws => X e ds (backA (.cons a es) (x :: vs) as ws α3))) X)
  | .mkcall f k pm a es, α, Q, X => pre a (fun α k => wpE c a α k X) α fun x α1 => fetch a x α1 fun o => onOi o (k + 2) (wpEs c es α1 (fun vs α2 => onO (dats? vs) fun ds => onO (permA pm ds) fun bs => takeA (c.sig f) (.cons a .nil) [x] α2 fun as α3 =>
      c.call f (as ++ bs) (fun r ws => frc (backA (.cons a .nil) [x] as ws α3) (Q r)) (fun e ds ws => X e ds (backA (.cons a .nil) [x] as ws α3))) X)
  | .at p e, α, Q, X => onO (getP p α) fun _ => wpE c e α (fun v α1 => onNat v fun n => onO (getP (.f p 0 n) α1) fun _ => Q (.p (.int (.ofNat n))) α1) X
  | .mutA m p e es, α, Q, X => onO (getP p α) fun _ => wpE c e α (fun v α1 => onNat v fun n => onO (getP (.f p 0 n) α1) fun o => onMu m (kindA o) (wpEs c es α1 (fun vs α2 => onO (getP (.f p 0 n) α2) fun o1 => onSame (kindA o) (kindA o1) (mutQ m o1 vs fun v o' => Q v (setP (.f p 0 n) α2 (some o')))) X)) X
  | .lstO es, α, Q, X => wpEs c es α (fun vs α1 => vs.length ≤ big ∧ Q (.oi 0 (someL vs)) α1) X
  | .frz e, α, Q, X => wpE c e α (fun v α1 => onO (deepD v) fun d => Q (.p d) α1) X
  | .kcall f pm es, α, Q, X => wpEs c es α (fun vs α1 => onO (dats? vs) fun ds => onO (permA pm ds) fun as => c.call f as (fun r _ => frc α1 (Q r)) (fun e ds' _ => X e ds' α1)) X
  | .bi b es, α, Q, X => wpEl c es α (fun vs α1 => readA es vs α1 fun vs => biQ c b vs fun v => Q v α1) X
  | .meth m r es, α, Q, X => pre r (fun α k => wpE c r α k X) α (fun x α1 => fetch r x α1 fun x1 => onMt m (kindA x1) (wpEl c es α1 (fun vs α2 => fetch r x α2 fun x2 => onSame (kindA x1) (kindA x2) (readA es vs α2 fun vs => methQ m x2 vs fun v => Q v α2)) X))
  | .mut m p es, α, Q, X => onO (getP p α) fun o => onMu m (kindA o) (wpEs c es α (fun vs α1 => onO (getP p α1) fun o1 => onSame (kindA o) (kindA o1) (mutQ m o1 vs fun v o' => Q v (setP p α1 (some o')))) X)
  | .fld a j, α, Q, X => wpE c a α (fun x α1 => match x with
      | .p (.exc e ds) => (match ds with
        | [d] => Nat.beq e j = true ∧ Q (.p d) α1
        | _ => False)
      | _ => False) X
  | .mkE k es, α, Q, X => wpEs c es α (fun vs α1 => onO (toDs vs) fun ds => raisOk k ds ∧ Q (.p (.exc k ds)) α1) X
  | .new k, α, Q, _ => onO (c.cls k) fun fs => Q (.oi (k + 2) fs) α
  | .lcO e t it own, α, Q, X => wpI c it α (fun xs gd ex α1 => xs.length ≤ big ∧ loopO own (fun d β k => wpG t d β k) (fun β k => wpE c e β k fun _ _ _ => False)
      gd xs [] (wipe own α1) fun ys α2 => Q (.oi 0 (someL ys)) (dat own α1 (wipe own (ex α2)))) X
  | .lcP e i p own, α, Q, _ => onO (getS α p) fun o => match o with
    | .oi c0 fs => (match c0 with
      | 0 => fs.length ≤ big ∧ loopP i p (fun β k => wpE c e β k fun _ _ _ => False) fs.length 0 [] (wipe own α) fun ys α2 => Q (.ol ys) (dat own α (wipe own α2))
      | _ => False)
    | _ => False
  | .fmt a, α, Q, X => pre a (fun α k => wpE c a α k X) α fun x α1 => fetch a x α1 fun x => match x with
    | .p (.int i) => (i.natAbs.log2 < 1920 ∧ (decT i).length ≤ 1000) ∧ Q (.p (.str (decT i))) α1
    | .p (.str s) => s.length ≤ 1000 ∧ Q (.p (.str s)) α1
    | _ => False
  | .fstr es, α, Q, X => wpEs c es α (fun vs α1 => onO (strsA vs) fun ss => ss.flatten.length ≤ big ∧ Q (.p (.str ss.flatten)) α1) X
  | .strX a, α, Q, X => pre a (fun α k => wpE c a α k X) α fun x α1 => fetch a x α1 fun x => match x with
    | .p (.exs _ s) => Q (.p (.str s)) α1
    | _ => False
  | .mkT k y, α, Q, _ => Q (.p (.exs k y)) α
  | .strC a, α, Q, X => wpE c a α (fun x α1 => onS x fun s => s.length ≤ 1000 ∧ Q (.p (.str s)) α1) X
/-- values that are kept: from the left -/
@[reducible] def wpEs (c : Ctx) : MEs → Sl → (List AV → Sl → Prop) → XP → Prop
  | .nil, α, Q, _ => Q [] α
  | .cons e r, α, Q, X => wpE c e α (fun v α1 => wpEs c r α1 (fun vs α2 => Q (v :: vs) α2) X) X
/-- operands: names are looked at later -/
@[reducible] def wpEl (c : Ctx) : MEs → Sl → (List AV → Sl → Prop) → XP → Prop
  | .nil, α, Q, _ => Q [] α
  | .cons e r, α, Q, X => pre e (fun α k => wpE c e α k X) α fun v α1 => wpEl c r α1 (fun vs α2 => Q (v :: vs) α2) X
/-- the tests of a comprehension -/
@[reducible] def wpT (c : Ctx) : MEs → Sl → (Bool → Sl → Prop) → Prop
  | .nil, α, Q => Q true α
  | .cons e r, α, Q => wpE c e α (fun v α1 => onB v fun b => ifB b (wpT c r α1 Q) (Q false α1)) (fun _ _ _ => False)
@[reducible] def wpO (c : Ctx) : MO → Sl → (Option Int → Sl → Prop) → XP → Prop
  | .none, α, Q, _ => Q none α
  | .some e, α, Q, X => wpE c e α (fun v α1 => onI v fun i => Q (some i) α1) X
@[reducible] def wpI (c : Ctx) : MI → Sl → IK → XP → Prop
  | .seq e, α, k, X => pre e (fun α k => wpE c e α k X) α fun v α1 => srcQ e v α1 k
  | .range es, α, k, X => wpEs c es α (fun vs α1 => match vs with
    | [x] => onI x fun j => (-(2 ^ 62) ≤ j ∧ j < 2 ^ 62) ∧ k (rangeD 0 j) (fun _ => True) (fun β => β) α1
    | [x, y] => onI x fun i => onI y fun j => (-(2 ^ 62) ≤ i ∧ i < 2 ^ 62 ∧ -(2 ^ 62) ≤ j ∧ j < 2 ^ 62) ∧ k (rangeD i j) (fun _ => True) (fun β => β) α1
    | [x, y, z] => onI x fun i => onI y fun j => onI z fun st => (-(2 ^ 62) ≤ i ∧ i < 2 ^ 62 ∧ -(2 ^ 62) ≤ j ∧ j < 2 ^ 62 ∧ st = -1) ∧ k (rangeN i j) (fun _ => True) (fun β => β) α1
    | _ => False) X
  | .enum e, α, k, X => pre e (fun α k => wpE c e α k X) α fun v α1 => srcQ e v α1 fun xs gd ex α2 => k (enumD 0 xs) gd ex α2
  | .zip a b, α, k, X => pre a (fun α k => wpE c a α k X) α fun x α1 => pre b (fun α k => wpE c b α k X) α1 fun y α2 =>
      fetch a x α2 fun x1 => srcQ a x α2 fun xs gd ex α3 => fetch b y α3 fun y1 => onLT (kindA x1) (kindA y1) (srcQ b y α3 fun ys gd' ex' α4 => k (zipD xs ys) (fun β => gd (ex' β) ∧ gd' β) (fun β => ex (ex' β)) α4)
  | .items p, α, k, _ => srcD p α itemsD k
  | .keys p, α, k, _ => srcD p α keysD k
  | .itemsE e, α, k, X => wpE c e α (fun v α1 => match v with
    | .od kvs => k (itemsD kvs) (fun _ => True) (fun β => β) α1
    | _ => False) X
  | .enumI p, α, k, _ => srcD p α (fun kvs => enumD 0 (itemsD kvs)) k
end
structure Ends where
  nx : Sl → Prop
  rt : VP
mutual
@[reducible] def wpS (c : Ctx) : MS → Sl → Ends → XP → Prop
  | .asg t e, α, N, X => wpE c e α (fun v α1 => match t with
    | .pl (.v i) => N.nx (setS α1 i (some v))
    | .pl p => N.nx (setP p α1 (some v))
    | .tup ts => onT v fun ds => wpGs ts ds α1 N.nx
    | .lst ts => onO (list? v) fun ds => wpGs ts ds α1 N.nx
    | .idx (.pl p) i => onO (getP p α1) fun _ => wpE c i α1 (fun y α2 => onO (getP p α2) fun o => putQ o y v fun o' => N.nx (setP p α2 (some o'))) X
    | .idx (.at p e2) i => onO (getP p α1) fun _ => wpE c e2 α1 (fun x α2 => onNat x fun n => onO (getP (.f p 0 n) α2) fun _ => wpE c i α2 (fun y α3 => onO (getP (.f p 0 n) α3) fun o => putQ o y v fun o' => N.nx (setP (.f p 0 n) α3 (some o'))) X) X
    | _ => False) X
  | .swp i a b e, α, N, X => wpE c e α (fun v α1 => onT v fun ds => match ds with
    | [d, d'] => onO (getS α1 i) fun _ => wpE c a α1 (fun y α2 => onO (getS α2 i) fun o => putQ o y (.p d) fun o' => onO (getS (setS α2 i (some o')) i) fun _ => wpE c b (setS α2 i (some o')) (fun z α3 => onO (getS α3 i) fun o => putQ o z (.p d') fun o' => N.nx (setS α3 i (some o'))) X) X
    | _ => False) X
  | .par i j a b, α, N, X => wpE c a α (fun v α1 => wpE c b α1 (fun u α2 => N.nx (setS (setS α2 i (some v)) j (some u))) X) X
  | .ex e, α, N, X => wpE c e α (fun _ α1 => N.nx α1) X
  | .iff t a b, α, N, X => wpE c t α (fun v α1 => onB v fun r => ifB r (wpSs c a α1 N X) (wpSs c b α1 N X)) X
  | .for t it b, α, N, X => wpI c it α (fun xs gd ex α1 => loopW (fun d β k => wpG t d β k) (fun β k => wpSs c b β ⟨k, fun v γ => gd γ ∧ N.rt v (ex γ)⟩ fun e ds γ => gd γ ∧ X e ds (ex γ)) gd xs α1 fun α2 => N.nx (ex α2)) X
  | .whl t b, α, N, X => ∃ n, loopN (fun β k => wpE c t β (fun v β1 => onB v fun r => k r β1) X) (fun β k => wpSs c b β ⟨k, N.rt⟩ X) n α N.nx
  | .ret e, α, N, X => match e with
    | .pl (.v i) => onO (getS α i) fun v => match v with
      | .p d => N.rt (.p d) α
      | .ld _ _ => False
      | .ll _ _ => False
      | v => N.rt v (setS α i none)
    | _ => wpE c e α N.rt X
  | .retn, α, N, _ => N.rt (.p .non) α
  | .rais k es, α, N, X => wpEs c es α (fun vs α1 => onO (toDs vs) fun ds => raisOk k ds ∧ X k ds α1) X
  | .tryc b k i h, α, N, X => wpSs c b α N fun e ds α1 => ifB (c.sub e k) (wpSs c h (setS α1 i (some (.p (.exc e ds)))) ⟨fun α2 => N.nx (setS α2 i none), N.rt⟩ X) (X e ds α1)
  | .tryA b k j i, α, N, X => wpSs c b α N fun e ds α1 => ifB (c.sub e k) (N.nx (setS (setS α1 j (some (.p (.exc e ds)))) i none)) (X e ds α1)
  | .pass, α, N, _ => N.nx α
  | .never, _, _, _ => False
  | .fby r l o sg nm tr, α, N, _ => onO (getS α r) fun x => onS x fun row => onO (getS α l) fun u => match u with
    | .ol xs => (row.length ≤ 1000 ∧ getS α o = none ∧ getS α sg = none ∧ getS α nm = none ∧ getS α tr = none ∧ Nat.blt o α.length = true ∧ Nat.blt sg α.length = true ∧ Nat.blt nm α.length = true ∧ Nat.blt tr α.length = true) ∧ fbW row xs [(.str [], [])] fun d => N.rt (.p d) (setS α l none)
    | _ => False
  | .lock i s, α, N, X => match getP i α with
    | some (.od kvs) => ∀ tok, wpS c s (setP i α (some (.ld tok kvs))) ⟨fun β => getP i β = some (.ld tok kvs) ∧ noLd (setP i β none) ∧ N.nx (setP i β (some (.od kvs))), fun v β => getP i β = some (.ld tok kvs) ∧ noLd (setP i β none) ∧ nlV v ∧ N.rt v (setP i β (some (.od kvs)))⟩
        fun e ds β => getP i β = some (.ld tok kvs) ∧ noLd (setP i β none) ∧ X e ds (setP i β (some (.od kvs)))
    | some (.ld _ _) => wpS c s α N X
    | some (.p (.dct kvs)) => ∀ tok, wpS c s (setP i α (some (.ld tok kvs))) ⟨fun β => getP i β = some (.ld tok kvs) ∧ noLd (setP i β none) ∧ N.nx (setP i β (some (.p (.dct kvs)))), fun v β => getP i β = some (.ld tok kvs) ∧ noLd (setP i β none) ∧ nlV v ∧ N.rt v (setP i β (some (.p (.dct kvs))))⟩
        fun e ds β => getP i β = some (.ld tok kvs) ∧ noLd (setP i β none) ∧ X e ds (setP i β (some (.p (.dct kvs))))
    | _ => False
@[reducible] def wpSs (c : Ctx) : MSs → Sl → Ends → XP → Prop
  | .nil, α, N, _ => N.nx α
  | .cons s r, α, N, X => wpS c s α ⟨fun α1 => frc α1 fun α1 => wpSs c r α1 N X, N.rt⟩ X
end
structure Fn where
  np : Nat
  ns : Nat
  sig : List Bool
  body : MSs
structure Prog where
  fns : List Fn
  cls : Nat → Option Sl
  sub : Nat → Nat → Bool
@[reducible] def padN : Nat → Sl
  | 0 => []
  | n + 1 => none :: padN n
@[reducible] def padS : List AV → Nat → Sl
  | [], n => padN n
  | v :: r, 0 => some v :: padS r 0
  | v :: r, n + 1 => some v :: padS r n
theorem padN_eq : ∀ n, padN n = List.replicate n none
  | 0 => rfl
  | n + 1 => congrArg (none :: ·) (padN_eq n)
theorem padS_eq : ∀ (vs : List AV) (n : Nat), padS vs n = vs.map some ++ List.replicate (n - vs.length) none
  | [], n => padN_eq n
  | v :: r, 0 => by
    show some v :: padS r 0 = _
    rw [padS_eq r 0]
    simp
  | v :: r, n + 1 => by
    show some v :: padS r n = _
    rw [padS_eq r n]
    simp
/-- what is handed back: the parameters' objects -/
@[reducible] def outS : List Bool → Sl → List (Option AV)
  | [], _ => []
  | true :: r, α => none :: outS r α.tail
  | false :: r, α => (getS α 0) :: outS r α.tail
def wpF0 (P : Prog) : Nat → Nat → List AV → FP → FX → Prop
  | 0, _, _, _, _ => False
  | k + 1, f, vs, Q, X => match getL P.fns f with
    | none => False
    | some d => vs.length = d.np ∧ (∀ j, getL d.sig j = some true → ∃ v, getL vs j = some (.p v)) ∧
      wpSs ⟨wpF0 P k, fun g => match getL P.fns g with | some e => e.sig | none => [], P.sub, P.cls⟩ d.body (padS vs d.ns)
        ⟨fun α => Q (.p .non) (outS d.sig α), fun v α => Q v (outS d.sig α)⟩ fun e ds α => X e ds (outS d.sig α)
@[irreducible] def wpF (P : Prog) (k f : Nat) (vs : List AV) (Q : FP) (X : FX) : Prop := wpF0 P k f vs Q X
end Am

namespace Am
open PySem PySem.Spec PyProof.Rows L2
/-- the exception classes: where each stands, what its field is called -/
class CN where
  adr : Nat → Nat
  fld : Nat → Str
  sub : Nat → Nat → Bool
  /-- the classes of objects: where each stands, its fields' names -/
  cad : Nat → Nat
  cfl : Nat → List Str
variable [CN]
/-- the object at a, as it stands (an exception that was caught) -/
def EO (a : Addr) (oe : Obj) : HO := .ext fun h => h.get? a = some oe
/-- an exception's fields: none are told, or one -/
def XF (f : Str) (d : Option Addr) (H : Hp) : List V → Prop
  | [] => d = none
  | [y] => ∃ (dd : Addr) (fs : List (Str × V)), d = some dd ∧ H dd = some (.xd fs) ∧ fs.lookup f = some y
  | _ => False
def sT (s : T) : Str := ⟨s.toArray⟩
def kK : Am.Key → L2.Key
  | .inl i => .inl i
  | .inr s => .inr (sT s)
theorem sT_inj {s t : T} (h : sT s = sT t) : s = t := by
  have h1 := congrArg (fun z : Str => z.cps.toList) h
  simpa [sT] using h1
theorem kK_inj {a b : Am.Key} (h : kK a = kK b) : a = b := by
  cases a <;> cases b <;> simp [kK] at h
  · exact congrArg _ h
  · exact congrArg _ (sT_inj h)
/-- an exception that keeps its text: its object, its arguments' tuple -/
def TxE (H : Hp) (e : Nat) (s : T) (x : V) : Prop := e < 6 ∧ ∃ (a t : Addr) (oe ot : Obj) (tk : Tok) (n : Nat), x = .ref a ∧ H a = some (EO a oe) ∧ H t = some (EO t ot) ∧ oe.cls = .ref (CN.adr e) ∧ oe.dict = none ∧ (∃ vs, oe.data = .fields vs ∧ vs[0]? = some (.ref t)) ∧ ot.cls = .type "tuple" ∧ ot.data = .seq #[.str (sT s) tk] n
theorem TxE.k {H H' : Hp} {e : Nat} {s : T} {x : V} (k : ∀ a oe, H a = some (EO a oe) → H' a = some (EO a oe)) (h : TxE H e s x) : TxE H' e s x := let ⟨le, a, t, oe, ot, tk, n, ex, h1, h2, r⟩ := h; ⟨le, a, t, oe, ot, tk, n, ex, k _ _ h1, k _ _ h2, r⟩
abbrev ZP := Addr → Prop
/-- a list that is not changed any more -/
def ZL (K : PySem.W.Frag) (H : Hp) (Z : ZP) (a : Addr) (vs : List V) : Prop :=
  (Z a ∧ Rd H a (.lst vs)) ∨ ∃ (o : Obj) (its : Array Value) (n : Nat), K.lookup a = some o ∧ o.cls = .type "list" ∧ o.dict = none ∧ o.data = .seq its n ∧ its.size ≤ sizeLine ∧ Vals vs its.toList
theorem ZL.sq {K : PySem.W.Frag} {H : Hp} {Z : ZP} {a : Addr} {vs : List V} (h : ZL K H Z a vs) : SqL K H a vs := by
  rcases h with ⟨_, h⟩ | h
  · exact .inl h
  · exact .inr h
/-- a tuple, known to the object: it has no dict of its own -/
def TF (H : Hp) (a : Addr) (vs : List V) : Prop := ∃ o : Obj, H a = some (.frz o (.tup vs)) ∧ o.dict = none ∧ o.cls = .type "tuple"
theorem TF.sq {K : PySem.W.Frag} {H : Hp} {a : Addr} {vs : List V} (h : TF H a vs) : SqT K H a vs := let ⟨o, h, _⟩ := h; .inl (.inr ⟨o, h⟩)
section
variable (K : PySem.W.Frag) (H : Hp) (Z : ZP)
mutual
def RD : D → V → Prop
  | .non, x => x = .non
  | .bl b, x => x = .bl b
  | .int i, x => x = .int i
  | .str s, x => x = .str (sT s)
  | .tup ds, x => ∃ a vs, x = .ref a ∧ TF H a vs ∧ RDs ds vs
  | .lst ds, x => ∃ a vs, x = .ref a ∧ ZL K H Z a vs ∧ RDs ds vs
  | .dct kvs, x => ∃ a ws, x = .ref a ∧ Z a ∧ Rd H a (.dK ws) ∧ RK kvs ws
  | .exc e ds, x => e < 6 ∧ ∃ (a : Addr) (oe : Obj) (ys : List V), x = .ref a ∧ H a = some (EO a oe) ∧ oe.cls = .ref (CN.adr e) ∧ (∃ vs, oe.data = .fields vs) ∧ XF (CN.fld e) oe.dict H ys ∧ RDs ds ys
  | .exs e s, x => TxE H e s x
def RDs : List D → List V → Prop
  | [], vs => vs = []
  | d :: r, vs => ∃ x q, vs = x :: q ∧ RD d x ∧ RDs r q
def RK : List (Am.Key × D) → List (L2.Key × V) → Prop
  | [], ws => ws = []
  | (k, d) :: r, ws => ∃ x q, ws = (kK k, x) :: q ∧ RD d x ∧ RK r q
end
/-- what holds objects, and is not changed itself: a list (0), a tuple (1), an instance -/
def Shell (H : Hp) (Z : ZP) : Nat → Addr → List V → Prop
  | 0, a, vs => Z a ∧ H a = some (.lst vs)
  | 1, a, vs => TF H a vs
  | c + 2, a, vs => Z a ∧ (CN.cfl c).length = vs.length ∧ ∃ dx, H a = some (.ins (CN.cad c) dx ((CN.cfl c).zip vs))
mutual
def RA : AV → V → List Addr → Prop
  | .p d, x, F => RD K H Z d x ∧ F = []
  | .ol ds, x, F => ∃ a vs, x = .ref a ∧ F = [a] ∧ H a = some (.lst vs) ∧ RDs K H Z ds vs
  | .od kvs, x, F => ∃ a ws, x = .ref a ∧ F = [a] ∧ H a = some (.dK ws) ∧ RK K H Z kvs ws
  | .ld a kvs, x, F => ∃ ws o, x = .ref a ∧ F = [] ∧ H a = some (.frz o (.dK ws)) ∧ RK K H Z kvs ws
  | .ll a ds, x, F => ∃ vs, x = .ref a ∧ F = [a] ∧ H a = some (.lst vs) ∧ RDs K H Z ds vs
  | .oi c fs, x, F => ∃ a vs, x = .ref a ∧ Shell H Z c a vs ∧ RAs fs (vs.map some) F
def RAs : List (Option AV) → L2.St → List Addr → Prop
  | [], σ, F => σ = [] ∧ F = []
  | none :: r, σ, F => ∃ y q, σ = y :: q ∧ RAs r q F
  | some v :: r, σ, F => ∃ x q F1 F2, σ = some x :: q ∧ F = F1 ++ F2 ∧ RA v x F1 ∧ RAs r q F2
end
end
/-- an object that may be changed -/
def Own : Option HO → Prop
  | some (.lst _) => True
  | some (.dK _) => True
  | some (.ins _ _ _) => True
  | _ => False
structure G3 (H : Hp) (Z : ZP) (F : List Addr) : Prop where
  nd : F.Nodup
  nz : ∀ a ∈ F, ¬ Z a
  ow : ∀ a ∈ F, Own (H a)
  zt : ∀ a, Z a → H a ≠ none
structure Step (H : Hp) (Z : ZP) (F : List Addr) (H' : Hp) (Z' : ZP) (F' : List Addr) : Prop where
  fr : ∀ a o, H a = some o → a ∉ F → H' a = some o
  nw : ∀ a ∈ F', a ∈ F ∨ H a = none
  zs : ∀ a, Z a → Z' a
  zn : ∀ a, Z' a → Z a ∨ a ∈ F ∨ H a = none
  tk : ∀ a, H a ≠ none → H' a ≠ none
/-- what data leans on is kept -/
structure Keep (H : Hp) (Z : ZP) (H' : Hp) (Z' : ZP) : Prop where
  ob : ∀ a o, H a = some o → ¬ Own (some o) ∨ Z a → H' a = some o
  zs : ∀ a, Z a → Z' a
section
variable {K : PySem.W.Frag} {H H' H1 H2 : Hp} {Z Z' Z1 Z2 : ZP} {F F' F1 F2 : List Addr}
theorem Step.refl : Step H Z F H Z F := ⟨fun _ _ h _ => h, fun _ h => .inl h, fun _ h => h, fun _ h => .inl h, fun _ h => h⟩
theorem Own.some' {o : Option HO} (h : Own o) : o ≠ none := by
  intro e
  rw [e] at h
  exact h
theorem Step.trans (a : Step H Z F H1 Z1 F1) (b : Step H1 Z1 F1 H2 Z2 F2) : Step H Z F H2 Z2 F2 where
  fr := fun x o h hn => b.fr x o (a.fr x o h hn) fun hx => by
    rcases a.nw x hx with q | q
    · exact hn q
    · rw [h] at q; cases q
  nw := fun x hx => by
    rcases b.nw x hx with q | q
    · exact a.nw x q
    · cases e : H x with
      | none => exact .inr rfl
      | some o => exact absurd q (a.tk x (by rw [e]; simp))
  zs := fun x h => b.zs x (a.zs x h)
  zn := fun x h => by
    rcases b.zn x h with q | q | q
    · exact a.zn x q
    · rcases a.nw x q with q | q
      · exact .inr (.inl q)
      · exact .inr (.inr q)
    · cases e : H x with
      | none => exact .inr (.inr rfl)
      | some o => exact absurd q (a.tk x (by rw [e]; simp))
  tk := fun x h => b.tk x (a.tk x h)
theorem Step.keep (s : Step H Z F H' Z' F') (g : G3 H Z F) : Keep H Z H' Z' := ⟨fun a o h q => s.fr a o h fun hm => by
  rcases q with q | q
  · have := g.ow a hm
    rw [h] at this
    exact q this
  · exact g.nz a hm q, s.zs⟩
theorem Keep.trans (a : Keep H Z H1 Z1) (b : Keep H1 Z1 H2 Z2) : Keep H Z H2 Z2 := ⟨fun x o h q => b.ob x o (a.ob x o h q) (q.imp id (a.zs x)), fun x h => b.zs x (a.zs x h)⟩
theorem Keep.rdZ (k : Keep H Z H' Z') {a : Addr} {u : HO} (z : Z a) (h : Rd H a u) : Rd H' a u := by
  rcases h with h | ⟨o, h⟩
  · exact .inl (k.ob a _ h (.inr z))
  · exact .inr ⟨o, k.ob a _ h (.inr z)⟩
theorem Keep.sqT (k : Keep H Z H' Z') {a : Addr} {vs : List V} (h : SqT K H a vs) : SqT K H' a vs := by
  rcases h with (h | ⟨o, h⟩) | h
  · exact .inl (.inl (k.ob a _ h (.inl fun q => q)))
  · exact .inl (.inr ⟨o, k.ob a _ h (.inl fun q => q)⟩)
  · exact .inr h
theorem Keep.tf (k : Keep H Z H' Z') {a : Addr} {vs : List V} (h : TF H a vs) : TF H' a vs := let ⟨o, h, q⟩ := h; ⟨o, k.ob a _ h (.inl fun z => z), q⟩
theorem Keep.zL (k : Keep H Z H' Z') {a : Addr} {vs : List V} (h : ZL K H Z a vs) : ZL K H' Z' a vs := by
  rcases h with ⟨z, h⟩ | h
  · exact .inl ⟨k.zs a z, k.rdZ z h⟩
  · exact .inr h
theorem Keep.xf (k : Keep H Z H' Z') {f : Str} {d : Option Addr} : ∀ {ys : List V}, XF f d H ys → XF f d H' ys
  | [], h => h
  | [_], ⟨dd, fs, e, h, l⟩ => ⟨dd, fs, e, k.ob dd _ h (.inl fun z => z), l⟩
  | _ :: _ :: _, h => h
mutual
theorem RD.keep (k : Keep H Z H' Z') : ∀ (d : D) {x : V}, RD K H Z d x → RD K H' Z' d x
  | .non, _, h => h
  | .bl _, _, h => h
  | .int _, _, h => h
  | .str _, _, h => h
  | .tup ds, _, ⟨a, vs, e, h, r⟩ => ⟨a, vs, e, k.tf h, RDs.keep k ds r⟩
  | .lst ds, _, ⟨a, vs, e, h, r⟩ => ⟨a, vs, e, k.zL h, RDs.keep k ds r⟩
  | .dct kvs, _, ⟨a, ws, e, z, h, r⟩ => ⟨a, ws, e, k.zs a z, k.rdZ z h, RK.keep k kvs r⟩
  | .exc e ds, _, ⟨le, a, oe, ys, ex, h, hc, hd, hf, r⟩ => ⟨le, a, oe, ys, ex, k.ob a _ h (.inl fun z => z), hc, hd, k.xf hf, RDs.keep k ds r⟩
  | .exs _ _, _, h => h.k fun a _ q => k.ob a _ q (.inl fun z => z)
theorem RDs.keep (k : Keep H Z H' Z') : ∀ (ds : List D) {vs : List V}, RDs K H Z ds vs → RDs K H' Z' ds vs
  | [], _, h => h
  | d :: r, _, ⟨x, q, e, h1, h2⟩ => ⟨x, q, e, RD.keep k d h1, RDs.keep k r h2⟩
theorem RK.keep (k : Keep H Z H' Z') : ∀ (kvs : List (Am.Key × D)) {ws : List (L2.Key × V)}, RK K H Z kvs ws → RK K H' Z' kvs ws
  | [], _, h => h
  | (_, d) :: r, _, ⟨x, q, e, h1, h2⟩ => ⟨x, q, e, RD.keep k d h1, RK.keep k r h2⟩
end
theorem Keep.shell (k : Keep H Z H' Z') {c : Nat} {a : Addr} {vs : List V} (h : Shell H Z c a vs) : Shell H' Z' c a vs := match c, h with
  | 0, h => ⟨k.zs a h.1, k.ob a _ h.2 (.inr h.1)⟩
  | 1, h => k.tf h
  | _ + 2, ⟨z, l, dx, h⟩ => ⟨k.zs a z, l, dx, k.ob a _ h (.inr z)⟩
mutual
theorem RA.frame (g : G3 H Z F) (s : Step H Z F H' Z' F') : ∀ {v : AV} {x : V} {Fx : List Addr}, RA K H Z v x Fx → (∀ a ∈ Fx, a ∉ F) → RA K H' Z' v x Fx
  | .p d, _, _, h, _ => ⟨RD.keep (s.keep g) d h.1, h.2⟩
  | .ol ds, _, _, ⟨a, vs, e, ef, ha, r⟩, hd => ⟨a, vs, e, ef, s.fr a _ ha (hd a (by rw [ef]; simp)), RDs.keep (s.keep g) ds r⟩
  | .od kvs, _, _, ⟨a, ws, e, ef, ha, r⟩, hd => ⟨a, ws, e, ef, s.fr a _ ha (hd a (by rw [ef]; simp)), RK.keep (s.keep g) kvs r⟩
  | .ll a ds, _, _, ⟨vs, e, ef, ha, r⟩, hd => ⟨vs, e, ef, s.fr a _ ha (hd a (by rw [ef]; simp)), RDs.keep (s.keep g) ds r⟩
  | .ld a kvs, _, _, ⟨ws, o, e, ef, ha, r⟩, _ => ⟨ws, o, e, ef, (s.keep g).ob a _ ha (.inl fun q => q), RK.keep (s.keep g) kvs r⟩
  | .oi c fs, _, _, ⟨a, vs, e, sh, r⟩, hd => ⟨a, vs, e, (s.keep g).shell sh, RAs.frame g s r hd⟩
theorem RAs.frame (g : G3 H Z F) (s : Step H Z F H' Z' F') : ∀ {α : List (Option AV)} {σ : L2.St} {Fx : List Addr}, RAs K H Z α σ Fx → (∀ a ∈ Fx, a ∉ F) → RAs K H' Z' α σ Fx
  | [], _, _, h, _ => h
  | none :: r, _, _, ⟨y, q, e, h⟩, hd => ⟨y, q, e, RAs.frame g s h hd⟩
  | some v :: r, _, _, ⟨x, q, F1, F2, e, ef, h1, h2⟩, hd => ⟨x, q, F1, F2, e, ef, RA.frame g s h1 fun a ha => hd a (by rw [ef]; exact List.mem_append_left _ ha), RAs.frame g s h2 fun a ha => hd a (by rw [ef]; exact List.mem_append_right _ ha)⟩
end
/-- held things beside a step -/
theorem Step.beside (g : G3 H Z (F ++ F1)) (s : Step H Z F H' Z' F') : Step H Z (F ++ F1) H' Z' (F' ++ F1) where
  fr := fun a o h hn => s.fr a o h fun hm => hn (List.mem_append_left _ hm)
  nw := fun a ha => by
    rcases List.mem_append.mp ha with q | q
    · rcases s.nw a q with q | q
      · exact .inl (List.mem_append_left _ q)
      · exact .inr q
    · exact .inl (List.mem_append_right _ q)
  zs := s.zs
  zn := fun a h => by
    rcases s.zn a h with q | q | q
    · exact .inl q
    · exact .inr (.inl (List.mem_append_left _ q))
    · exact .inr (.inr q)
  tk := s.tk
theorem G3.left (g : G3 H Z (F ++ F1)) : G3 H Z F := ⟨(List.nodup_append.mp g.nd).1, fun a h => g.nz a (List.mem_append_left _ h), fun a h => g.ow a (List.mem_append_left _ h), g.zt⟩
theorem G3.right (g : G3 H Z (F ++ F1)) : G3 H Z F1 := ⟨(List.nodup_append.mp g.nd).2.1, fun a h => g.nz a (List.mem_append_right _ h), fun a h => g.ow a (List.mem_append_right _ h), g.zt⟩
theorem G3.dis (g : G3 H Z (F ++ F1)) : ∀ a ∈ F1, a ∉ F := fun a h1 h2 => (List.nodup_append.mp g.nd).2.2 a h2 a h1 rfl
theorem G3.perm (g : G3 H Z F) (p : F.Perm F1) : G3 H Z F1 := ⟨p.nodup_iff.mp g.nd, fun a h => g.nz a (p.mem_iff.mpr h), fun a h => g.ow a (p.mem_iff.mpr h), g.zt⟩
theorem Step.permL (s : Step H Z F H' Z' F') (p : F.Perm F1) : Step H Z F1 H' Z' F' := ⟨fun a o h hn => s.fr a o h fun q => hn (p.mem_iff.mp q), fun a h => (s.nw a h).imp (fun q => p.mem_iff.mp q) id, s.zs, fun a h => (s.zn a h).imp id (Or.imp (fun q => p.mem_iff.mp q) id), s.tk⟩
theorem Step.permR (s : Step H Z F H' Z' F') (p : F'.Perm F1) : Step H Z F H' Z' F1 := ⟨s.fr, fun a h => s.nw a (p.mem_iff.mpr h), s.zs, s.zn, s.tk⟩
theorem Step.lessR (s : Step H Z F H' Z' F') (p : ∀ a ∈ F1, a ∈ F') : Step H Z F H' Z' F1 := ⟨s.fr, fun a h => s.nw a (p a h), s.zs, s.zn, s.tk⟩
theorem G3.beside (g : G3 H Z (F ++ F1)) (s : Step H Z F H' Z' F') (g' : G3 H' Z' F') : G3 H' Z' (F' ++ F1) where
  nd := List.nodup_append.mpr ⟨g'.nd, g.right.nd, fun a h1 b h2 e => by
    subst e
    rcases s.nw a h1 with q | q
    · exact g.dis a h2 q
    · exact (g.right.ow a h2).some' q⟩
  nz := fun a h z => by
    rcases List.mem_append.mp h with h | h
    · exact g'.nz a h z
    · rcases s.zn a z with q | q | q
      · exact g.right.nz a h q
      · exact g.dis a h q
      · exact (g.right.ow a h).some' q
  ow := fun a h => by
    rcases List.mem_append.mp h with h | h
    · exact g'.ow a h
    · cases e : H a with
      | none => exact absurd e (g.right.ow a h).some'
      | some o =>
        rw [s.fr a o e (g.dis a h), ← e]
        exact g.right.ow a h
  zt := g'.zt
/-- a new object of one's own -/
theorem Step.new (h : H p = none) {o : HO} (g : G3 H Z F) : Step H Z F (upd H p o) Z (F ++ [p]) where
  fr := fun a u q _ => by rw [upd_ne (ne_of_none q h)]; exact q
  nw := fun a q => by
    rcases List.mem_append.mp q with q | q
    · exact .inl q
    · rw [List.mem_singleton.mp q]; exact .inr h
  zs := fun _ q => q
  zn := fun _ q => .inl q
  tk := fun a q => by
    by_cases e : a = p
    · subst e; rw [upd_same]; simp
    · rw [upd_ne e]; exact q
theorem G3.new (h : H p = none) {o : HO} (ho : Own (some o)) (g : G3 H Z F) : G3 (upd H p o) Z (F ++ [p]) where
  nd := List.nodup_append.mpr ⟨g.nd, by simp, fun a h1 b h2 e => by
    rw [List.mem_singleton.mp h2] at e
    subst e
    exact (g.ow a h1).some' h⟩
  nz := fun a q z => by
    rcases List.mem_append.mp q with q | q
    · exact g.nz a q z
    · rw [List.mem_singleton.mp q] at z; exact g.zt p z h
  ow := fun a q => by
    by_cases e : a = p
    · subst e; rw [upd_same]; exact ho
    · rw [upd_ne e]
      rcases List.mem_append.mp q with q | q
      · exact g.ow a q
      · exact absurd (List.mem_singleton.mp q) e
  zt := fun a z => by
    by_cases e : a = p
    · subst e; rw [upd_same]; simp
    · rw [upd_ne e]; exact g.zt a z
/-- a new object that is data (a tuple) -/
theorem Step.newT (h : H p = none) {o : HO} : Step H Z F (upd H p o) Z F where
  fr := fun a u q _ => by rw [upd_ne (ne_of_none q h)]; exact q
  nw := fun a q => .inl q
  zs := fun _ q => q
  zn := fun _ q => .inl q
  tk := fun a q => by
    by_cases e : a = p
    · subst e; rw [upd_same]; simp
    · rw [upd_ne e]; exact q
theorem G3.newT (h : H p = none) {o : HO} (g : G3 H Z F) : G3 (upd H p o) Z F where
  nd := g.nd
  nz := g.nz
  ow := fun a q => by rw [upd_ne (fun e => by subst e; exact (g.ow a q).some' h)]; exact g.ow a q
  zt := fun a z => by
    by_cases e : a = p
    · subst e; rw [upd_same]; simp
    · rw [upd_ne e]; exact g.zt a z
/-- an object of one's own is changed -/
theorem Step.wr (hm : p ∈ F) {o : HO} : Step H Z F (upd H p o) Z F where
  fr := fun a u q hn => by rw [upd_ne (fun e => by subst e; exact hn hm)]; exact q
  nw := fun a q => .inl q
  zs := fun _ q => q
  zn := fun _ q => .inl q
  tk := fun a q => by
    by_cases e : a = p
    · subst e; rw [upd_same]; simp
    · rw [upd_ne e]; exact q
theorem G3.wr {o : HO} (ho : Own (some o)) (g : G3 H Z F) : G3 (upd H p o) Z F where
  nd := g.nd
  nz := g.nz
  ow := fun a q => by
    by_cases e : a = p
    · subst e; rw [upd_same]; exact ho
    · rw [upd_ne e]; exact g.ow a q
  zt := fun a z => by
    by_cases e : a = p
    · subst e; rw [upd_same]; simp
    · rw [upd_ne e]; exact g.zt a z
/-- objects of one's own become data -/
theorem Step.frz : Step H Z (F ++ F1) H (fun a => Z a ∨ a ∈ F1) F where
  fr := fun _ _ q _ => q
  nw := fun a q => .inl (List.mem_append_left _ q)
  zs := fun _ q => .inl q
  zn := fun a q => q.imp id fun q => .inl (List.mem_append_right _ q)
  tk := fun _ q => q
theorem G3.frz (g : G3 H Z (F ++ F1)) : G3 H (fun a => Z a ∨ a ∈ F1) F where
  nd := g.left.nd
  nz := fun a h z => by
    rcases z with z | z
    · exact g.left.nz a h z
    · exact g.dis a z h
  ow := g.left.ow
  zt := fun a z => by
    rcases z with z | z
    · exact g.zt a z
    · exact (g.right.ow a z).some'
theorem Keep.z (h : ∀ a, Z a → Z' a) : Keep H Z H Z' := ⟨fun _ _ q _ => q, h⟩
/-- an object as data -/
theorem RA.toD {v : AV} {x : V} {Fx : List Addr} {d : D} (h : RA K H Z v x Fx) (e : toD v = some d) : RD K H (fun a => Z a ∨ a ∈ Fx) d x := by
  have k : Keep H Z H (fun a => Z a ∨ a ∈ Fx) := .z fun _ q => .inl q
  cases v with
  | p d' => cases e; exact RD.keep k _ h.1
  | ol ds =>
    cases e
    obtain ⟨a, vs, e, ef, ha, r⟩ := h
    subst ef
    exact ⟨a, vs, e, .inl ⟨.inr (by simp), .inl ha⟩, RDs.keep k ds r⟩
  | od kvs =>
    cases e
    obtain ⟨a, ws, e, ef, ha, r⟩ := h
    subst ef
    exact ⟨a, ws, e, .inr (by simp), .inl ha, RK.keep k kvs r⟩
  | ld _ kvs => cases e
  | ll _ _ => cases e
  | oi c fs => cases e
end
end Am

set_option maxHeartbeats 4000000
namespace Am
open PySem PySem.Spec PyProof.Rows L2
variable [CN]
/-- what only adds new objects -/
def New (H : Hp) (Z : ZP) (H' : Hp) (Z' : ZP) (Fr : List Addr) : Prop := ∀ F, G3 H Z F → Step H Z F H' Z' (F ++ Fr) ∧ G3 H' Z' (F ++ Fr)
def Zt (H : Hp) (Z : ZP) : Prop := ∀ a, Z a → H a ≠ none
def ResP (K : PySem.W.Frag) (H : Hp) (Z : ZP) (k : AV → Prop) (Q : VK) : Prop := ∀ v, k v → ∀ H' Z' x Fr, New H Z H' Z' Fr → RA K H' Z' v x Fr → Q x H'
section
variable {K : PySem.W.Frag} {H H' : Hp} {Z Z' : ZP} {F Fr : List Addr} {k : AV → Prop} {Q : VK}
theorem New.refl : New H Z H Z [] := fun F g => by rw [List.append_nil]; exact ⟨.refl, g⟩
theorem New.own {p : Addr} {o : HO} (h : H p = none) (ho : Own (some o)) : New H Z (upd H p o) Z [p] := fun F g => ⟨.new h g, .new h ho g⟩
theorem New.dat {p : Addr} {o : HO} (h : H p = none) : New H Z (upd H p o) Z [] := fun F g => by rw [List.append_nil]; exact ⟨.newT h, .newT h g⟩
theorem New.keep (n : New H Z H' Z' Fr) (zt : Zt H Z) : Keep H Z H' Z' := by
  have g : G3 H Z [] := ⟨List.nodup_nil, fun a h => absurd h (by simp), fun a h => absurd h (by simp), zt⟩
  exact (n [] g).1.keep g
theorem ResP.d {d : D} {x : V} (r : ResP K H Z k Q) (h : k (.p d)) (q : RD K H Z d x) : Q x H := r _ h H Z x [] .refl ⟨q, rfl⟩
theorem ResP.lst {ds : List D} {vs : List V} {p : Addr} (r : ResP K H Z k Q) (zt : Zt H Z) (h : k (.ol ds)) (q : RDs K H Z ds vs) (hp : H p = none) : Q (.ref p) (upd H p (.lst vs)) := by
  have n : New H Z (upd H p (.lst vs)) Z [p] := .own hp trivial
  exact r _ h _ Z _ [p] n ⟨p, vs, rfl, rfl, upd_same, RDs.keep (n.keep zt) ds q⟩
theorem ResP.tup {ds : List D} {vs : List V} {p : Addr} {ob : Obj} (r : ResP K H Z k Q) (zt : Zt H Z) (h : k (.p (.tup ds))) (q : RDs K H Z ds vs) (hp : H p = none) (hd : ob.dict = none) (hc : ob.cls = .type "tuple") : Q (.ref p) (upd H p (.frz ob (.tup vs))) := by
  have n : New H Z (upd H p (.frz ob (.tup vs))) Z [] := .dat hp
  exact r _ h _ Z _ [] n ⟨⟨p, vs, rfl, ⟨ob, upd_same, hd, hc⟩, RDs.keep (n.keep zt) ds q⟩, rfl⟩
theorem ResP.dct {kvs : List (Am.Key × D)} {ws : List (L2.Key × V)} {p : Addr} (r : ResP K H Z k Q) (zt : Zt H Z) (h : k (.od kvs)) (q : RK K H Z kvs ws) (hp : H p = none) : Q (.ref p) (upd H p (.dK ws)) := by
  have n : New H Z (upd H p (.dK ws)) Z [p] := .own hp trivial
  exact r _ h _ Z _ [p] n ⟨p, ws, rfl, rfl, upd_same, RK.keep (n.keep zt) kvs q⟩
theorem RDs.len {ds : List D} : ∀ {vs : List V}, RDs K H Z ds vs → ds.length = vs.length := by
  induction ds with
  | nil => intro vs h; rw [show vs = [] from h]; rfl
  | cons d r ih =>
    rintro vs ⟨x, q, e, _, h⟩
    rw [e, List.length_cons, List.length_cons, ih h]
theorem RDs.app {ds es : List D} : ∀ {vs ws : List V}, RDs K H Z ds vs → RDs K H Z es ws → RDs K H Z (ds ++ es) (vs ++ ws) := by
  induction ds with
  | nil => intro vs ws h1 h2; rw [show vs = [] from h1]; exact h2
  | cons d r ih =>
    rintro vs ws ⟨x, q, e, h, hr⟩ h2
    exact ⟨x, q ++ ws, by rw [e]; rfl, h, ih hr h2⟩
theorem RDs.rep {ds : List D} {vs : List V} (h : RDs K H Z ds vs) : ∀ n : Nat, RDs K H Z (List.replicate n ds).flatten (List.replicate n vs).flatten
  | 0 => rfl
  | n + 1 => by
    rw [List.replicate_succ, List.replicate_succ, List.flatten_cons, List.flatten_cons]
    exact h.app (RDs.rep h n)
theorem RDs.at {ds : List D} : ∀ {vs : List V} {i : Nat} {d : D}, RDs K H Z ds vs → ds[i]? = some d → ∃ x, vs[i]? = some x ∧ RD K H Z d x := by
  induction ds with
  | nil => intro vs i d _ h; simp at h
  | cons c r ih =>
    rintro vs i d ⟨x, q, e, h, hr⟩ hi
    cases i with
    | zero =>
      simp at hi
      subst hi
      exact ⟨x, by rw [e]; rfl, h⟩
    | succ i =>
      obtain ⟨y, h1, h2⟩ := ih hr (by simpa using hi)
      exact ⟨y, by rw [e]; simpa using h1, h2⟩
theorem RDs.take {ds : List D} : ∀ {vs : List V} (n : Nat), RDs K H Z ds vs → RDs K H Z (ds.take n) (vs.take n) := by
  induction ds with
  | nil => intro vs n h; rw [show vs = [] from h]; cases n <;> rfl
  | cons d r ih =>
    rintro vs n ⟨x, q, e, h, hr⟩
    cases n with
    | zero => rfl
    | succ n => exact ⟨x, q.take n, by rw [e]; rfl, h, ih n hr⟩
theorem RDs.drop {ds : List D} : ∀ {vs : List V} (n : Nat), RDs K H Z ds vs → RDs K H Z (ds.drop n) (vs.drop n) := by
  induction ds with
  | nil => intro vs n h; rw [show vs = [] from h]; cases n <;> rfl
  | cons d r ih =>
    rintro vs n ⟨x, q, e, h, hr⟩
    cases n with
    | zero => exact ⟨x, q, e, h, hr⟩
    | succ n => rw [e]; exact ih n hr
theorem RDs.rev {ds : List D} : ∀ {vs : List V}, RDs K H Z ds vs → RDs K H Z ds.reverse vs.reverse := by
  induction ds with
  | nil => intro vs h; rw [show vs = [] from h]; rfl
  | cons d r ih =>
    rintro vs ⟨x, q, e, h, hr⟩
    rw [e, List.reverse_cons, List.reverse_cons]
    exact (ih hr).app ⟨x, [], rfl, h, rfl⟩
theorem RDs.set {ds : List D} : ∀ {vs : List V} {d : D} {x : V} (n : Nat), RDs K H Z ds vs → RD K H Z d x → RDs K H Z (setL ds n d) (vs.set n x) := by
  induction ds with
  | nil => intro vs d x n h _; rw [show vs = [] from h]; rfl
  | cons c r ih =>
    rintro vs d x n ⟨y, q, e, h, hr⟩ hd
    cases n with
    | zero => exact ⟨x, q, by rw [e]; rfl, hd, hr⟩
    | succ n => exact ⟨y, q.set n x, by rw [e]; rfl, h, ih n hr hd⟩
theorem RDs.erase {ds : List D} : ∀ {vs : List V} (n : Nat), RDs K H Z ds vs → RDs K H Z (ds.eraseIdx n) (vs.eraseIdx n) := by
  induction ds with
  | nil => intro vs n h; rw [show vs = [] from h]; rfl
  | cons c r ih =>
    rintro vs n ⟨y, q, e, h, hr⟩
    cases n with
    | zero => rw [e]; exact hr
    | succ n => exact ⟨y, q.eraseIdx n, by rw [e]; rfl, h, ih n hr⟩
theorem RDs.dropLast {ds : List D} {vs : List V} (h : RDs K H Z ds vs) : RDs K H Z ds.dropLast vs.dropLast := by
  rw [List.dropLast_eq_take, List.dropLast_eq_take, h.len]
  exact h.take _
omit [CN] in
theorem getL_eq {α : Type} : ∀ (l : List α) (i : Nat), getL l i = l[i]?
  | [], i => by simp [getL]
  | a :: l, 0 => by simp [getL]
  | a :: l, i + 1 => by simp [getL, getL_eq l i]
/-- an operator's way by values -/
def rB (K : PySem.W.Frag) (op : AV → AV → (AV → Prop) → Prop) : R2 := fun x y H Q => ∃ Z v1 v2 F1 F2 k, Zt H Z ∧ RA K H Z v1 x F1 ∧ RA K H Z v2 y F2 ∧ op v1 v2 k ∧ ResP K H Z k Q
theorem onI.el {v : AV} {k : Int → Prop} (h : onI v k) : ∃ i, v = .p (.int i) ∧ k i := by
  unfold onI at h
  split at h
  · exact ⟨_, rfl, h⟩
  · exact h.elim
theorem onNat.el {v : AV} {k : Nat → Prop} (h : onNat v k) : ∃ n : Nat, v = .p (.int (.ofNat n)) ∧ k n := by
  unfold onNat at h
  split at h
  · exact ⟨_, rfl, h⟩
  · exact h.elim
theorem onS.el {v : AV} {k : T → Prop} (h : onS v k) : ∃ i, v = .p (.str i) ∧ k i := by
  unfold onS at h
  split at h
  · exact ⟨_, rfl, h⟩
  · exact h.elim
theorem onB.el {v : AV} {k : Bool → Prop} (h : onB v k) : ∃ i, v = .p (.bl i) ∧ k i := by
  unfold onB at h
  split at h
  · exact ⟨_, rfl, h⟩
  · exact h.elim
theorem onT.el {v : AV} {k : List D → Prop} (h : onT v k) : ∃ i, v = .p (.tup i) ∧ k i := by
  unfold onT at h
  split at h
  · exact ⟨_, rfl, h⟩
  · exact h.elim
theorem onN.el {v : AV} {A : Prop} (h : onN v A) : v = .p .non ∧ A := by
  unfold onN at h
  split at h
  · exact ⟨rfl, h⟩
  · exact h.elim
theorem onO.el {α : Type} {o : Option α} {k : α → Prop} (h : onO o k) : ∃ i, o = some i ∧ k i := by
  unfold onO at h
  split at h
  · exact ⟨_, rfl, h⟩
  · exact h.elim
theorem big_eq : big = sizeLine := rfl
end
section
variable {X : Cx}
theorem add_ls {pins : List (Addr × Obj)} {σ : L2.St} {H : Hp} {s : Shared} {a b : Addr} {xs ys : List V} {Q : VK} (I : Inv X pins σ H s) (ha : SqL X.K H a xs) (hb : SqL X.K H b ys) (hz : xs.length + ys.length ≤ sizeLine)
    (q : ∀ p, H p = none → Q (.ref p) (upd H p (.lst (xs ++ ys)))) : wpAny (model X.prog X.w) X.A (binaryOp .Add (.ref a) (.ref b)) (EP X pins σ Q) X.xe s := by
  obtain ⟨vs, r1, p1, _⟩ := I.list ha
  obtain ⟨ws, r2, p2, _⟩ := I.list hb
  obtain ⟨⟨cls, dd, data, sl⟩, ho, hc, n, hd⟩ := id p1.isList
  obtain ⟨⟨cls2, dd2, data2, sl2⟩, ho2, hc2, n2, hd2⟩ := id p2.isList
  simp only at hc hd hc2 hd2
  subst hc hd hc2 hd2
  have e : vs.toArray ++ ws.toArray = (vs ++ ws).toArray := by simp
  have hl := r1.length
  have hl2 := r2.length
  refine concat_meets ⟨_, ho, rfl⟩ ⟨_, ho2, rfl⟩ noFill_list_add seq_list_add PySem.F.slot_list_add PySem.F.entry_list_add (PySem.F.args_list_add_2 _ _) (list_addW a b vs.toArray ws.toArray n n2 dd dd2 sl sl2 (by rw [List.size_toArray, List.size_toArray]; omega)) ⟨ho, ho2, ?_⟩
  rw [e]
  exact ⟨.ref _, _, I.lnew (t' := s.toks) (r1.append r2) (by rw [List.length_append]; omega), rfl, q _ I.fresh⟩
theorem sT_len (s : T) : (sT s).length = s.length := by simp [sT, Str.length]
theorem sT_app (s t : T) : sT s ++ sT t = sT (s ++ t) := by
  show Str.append _ _ = _
  simp [sT, Str.append]
theorem ix_some {α : Type} {xs : List α} {i : Int} {v : α} (h : atD xs i = some v) : L2.atI xs i = some v := by
  unfold atD at h
  split at h
  · rename_i n
    rw [getL_eq] at h
    exact atI_nat h
  · rename_i n
    split at h
    · rename_i hn
      rw [getL_eq] at h
      unfold atI ixN
      rw [if_neg (by omega), if_pos (by omega)]
      have e : (Int.negSucc n + (xs.length : Int)).toNat = xs.length - 1 - n := by omega
      rw [e]
      exact h
    · cases h
/-- which operator of the model -/
def Op.op : Op → Operator
  | .add => .Add | .sub => .Sub | .mul => .Mult | .fdiv => .FloorDiv | .mod => .Mod | .pow => .Pow | .shl => .LShift | .shr => .RShift | .band => .BitAnd
theorem ra_int {K : PySem.W.Frag} {H : Hp} {Z : ZP} {i : Int} {x : V} {F : List Addr} (h : RA K H Z (.p (.int i)) x F) : x = .int i := h.1
theorem ra_str {K : PySem.W.Frag} {H : Hp} {Z : ZP} {i : T} {x : V} {F : List Addr} (h : RA K H Z (.p (.str i)) x F) : x = .str (sT i) := h.1
/-- a list as it is read -/
theorem RA.list {K : PySem.W.Frag} {H : Hp} {Z : ZP} {v : AV} {x : V} {F : List Addr} {ds : List D} (h : RA K H Z v x F) (e : list? v = some ds) : ∃ a vs, x = .ref a ∧ SqL K H a vs ∧ RDs K H Z ds vs := by
  cases v with
  | p d =>
    cases d <;> simp [list?] at e
    subst e
    obtain ⟨a, vs, h1, h2, h3⟩ := h.1
    exact ⟨a, vs, h1, h2.sq, h3⟩
  | ol xs =>
    simp [list?] at e
    subst e
    obtain ⟨a, vs, h1, _, h2, h3⟩ := h
    exact ⟨a, vs, h1, .of h2, h3⟩
  | ll a xs =>
    simp [list?] at e
    subst e
    obtain ⟨vs, h1, _, h2, h3⟩ := h
    exact ⟨a, vs, h1, .of h2, h3⟩
  | _ => simp [list?] at e
theorem op_cat2 : OpR X (binaryOp .Add) (fun x y H Q => ∃ a b xs ys, x = .ref a ∧ y = .ref b ∧ SqL X.K H a xs ∧ SqL X.K H b ys ∧ xs.length + ys.length ≤ sizeLine ∧ ∀ p, H p = none → Q (.ref p) (upd H p (.lst (xs ++ ys)))) := by
  intro pins s σ H x y v u Q I rx ry h
  obtain ⟨a, b, xs, ys, rfl, rfl, ha, hb, hz, q⟩ := h
  cases rx
  cases ry
  exact add_ls I ha hb hz q
/-- a new tuple, known to its object -/
theorem Inv.tnew {pins : List (Addr × Obj)} {σ : L2.St} {H : Hp} {s : Shared} {ys : List V} {its : List Value} (I : Inv X pins σ H s) (hv : Vals ys its) (hz : ys.length ≤ sizeLine) :
    Inv X pins σ (upd H s.heap.objs.size (.frz { cls := .type "tuple", data := .seq its.toArray } (.tup ys))) { s with heap := s.heap.push { cls := .type "tuple", data := .seq its.toArray } } :=
  I.laid (t' := s.toks) (o := .frz { cls := .type "tuple", data := .seq its.toArray } (.tup ys)) (fun b ob q => Heap.get?_push_of_some _ q) (Nat.le_refl _) ⟨Heap.get?_push_size _ rfl, hz, its, hv, IsTup.new _ _⟩
/-- what comes of a new tuple -/
def QT (Q : VK) (H : Hp) (ys : List V) : Prop := ∀ (p : Addr) (ob : Obj), H p = none → ob.dict = none → ob.cls = .type "tuple" → Q (.ref p) (upd H p (.frz ob (.tup ys)))
theorem op_catT2 : OpR X (binaryOp .Add) (fun x y H Q => ∃ a b xs ys, x = .ref a ∧ y = .ref b ∧ SqT X.K H a xs ∧ SqT X.K H b ys ∧ xs.length + ys.length ≤ sizeLine ∧ (ys = [] → Q (.ref a) H) ∧ (xs = [] → Q (.ref b) H) ∧ QT Q H (xs ++ ys)) := by
  intro pins s σ H x y v u Q I rx ry h
  obtain ⟨a, b, xs, ys, rfl, rfl, ha, hb, hz, q1, q2, q3⟩ := h
  cases rx
  cases ry
  obtain ⟨its, r1, p1, _⟩ := I.tuple ha
  obtain ⟨its2, r2, p2, _⟩ := I.tuple hb
  by_cases hx : xs = []
  · subst hx
    cases r1
    obtain ⟨⟨cls, dd, data, sl⟩, ho, hc, n, hd⟩ := id p1
    obtain ⟨⟨cls2, dd2, data2, sl2⟩, ho2, hc2, n2, hd2⟩ := id p2
    simp only at hc hd hc2 hd2
    subst hc hd hc2 hd2
    exact concat_meets ⟨_, ho, rfl⟩ ⟨_, ho2, rfl⟩ noFill_tuple_add seq_tuple_add PySem.F.slot_tuple_add PySem.F.entry_tuple_add (PySem.F.args_tuple_add_2 _ _)
      (tuple_addW0 a b (#[] : Array Value) its2.toArray n n2 dd dd2 sl sl2 (by simp)) ⟨ho, ho2, ⟨.ref b, H, I, rfl, q2 rfl⟩⟩
  · refine HT.cat_tup p1 p2 (fun z => hx (r1.nil_iff.mp z)) (fun z => ⟨.ref a, H, I, rfl, q1 (r2.nil_iff.mp z)⟩) (fun z => ?_) (by rw [← r1.length, ← r2.length]; exact hz)
    exact ⟨.ref s.heap.objs.size, _, Inv.tnew I (r1.append r2) (by rw [List.length_append]; exact hz), rfl, q3 _ _ (I.hok.fresh (Nat.le_refl _)) rfl rfl⟩
theorem mul_strRep : OpR X (binaryOp .Mult) (fun x y H Q => ∃ z n, x = .str z ∧ y = .int n ∧ z.length * n.toNat ≤ sizeLine ∧ -1000000 ≤ n ∧ n < 1000000 ∧ Q (.str (sT (repT z.cps.toList n))) H) := by
  intro pins s σ H x y v u Q I rx ry h
  obtain ⟨z, n, rfl, rfl, hz, h0, h1, q⟩ := h
  obtain ⟨t, rfl⟩ := rx
  obtain ⟨t', rfl⟩ := ry
  have rep0 : ∀ a : Array Nat, ∀ acc : Array Nat, ∀ k, (List.replicate k a).foldl (· ++ ·) acc = acc ++ (List.replicate k a.toList).flatten.toArray := by
    intro a acc k
    induction k generalizing acc with
    | zero => simp
    | succ k ih =>
      rw [List.replicate_succ, List.foldl_cons, ih]
      apply Array.ext'
      simp [List.replicate_succ]
  refine PySem.P.mul_str (by
      rw [decide_eq_false (show ¬ n < -(2 ^ 63 : Int) by omega), decide_eq_false (show ¬ n ≥ 2 ^ 63 by omega)]; rfl) (fun h2 _ => ?_) (fun h2 _ => ?_) ?_
  · intro hc
    have hz' : (z.length : Int) * n ≤ 16777216 := by
      have : ((z.length * n.toNat : Nat) : Int) ≤ 16777216 := by
        have : z.length * n.toNat ≤ 16777216 := hz
        omega
      rw [Int.natCast_mul, Int.toNat_of_nonneg (by omega)] at this
      exact this
    have h3 : (2 ^ 63 - 1 : Int) / n < z.length := hc
    have h4 : (2 ^ 63 - 1 : Int) < z.length * n := (Int.ediv_lt_iff_lt_mul (by omega)).mp h3
    omega
  · have : z.length * n.toNat ≤ 16777216 := hz
    exact decide_eq_false (Nat.not_lt.mpr this)
  · split
    · rename_i hn
      refine ⟨by decide, .str Str.empty, H, I.tok _, ⟨_, rfl⟩, ?_⟩
      have e : sT (repT z.cps.toList n) = Str.empty := by
        unfold repT
        rw [show n.toNat = 0 by omega]
        rfl
      rw [← e]
      exact q
    · split
      · rename_i hn he
        refine ⟨.str z, H, I, ⟨_, rfl⟩, ?_⟩
        have e : sT (repT z.cps.toList n) = z := by
          rw [Bool.or_eq_true] at he
          rcases he with he | he
          · have e1 : n = 1 := by simpa using he
            subst e1
            simp [repT, sT]
          · have e1 : z.cps.toList = [] := by
              have : z.length = 0 := by simpa using he
              exact List.eq_nil_of_length_eq_zero (by simpa [Str.length] using this)
            have e2 : z = ⟨#[]⟩ := by
              cases z with
              | mk c =>
                have : c.toList = [] := e1
                congr 1
                simpa using this
            rw [e2]
            simp [repT, sT]
        rw [← e]
        rw [e]
        rw [e] at q
        exact q
      · refine ⟨?_, .str _, H, I.tok _, ⟨_, rfl⟩, ?_⟩
        · rw [rep0]
          show Str.length _ ≤ _
          have : (z.cps.toList).length = z.length := by simp [Str.length]
          simp only [Str.length]
          simp [List.length_flatten]
          first | exact hz | (rw [Nat.mul_comm]; exact hz)
        · rw [rep0]
          simpa [repT, sT] using q
theorem bin_ok (o : Op) : OpR X (binaryOp o.op) (rB X.K (binQ o)) := by
  intro pins s σ H x y v u Q I rx ry ⟨Z, v1, v2, F1, F2, k, zt, h1, h2, hq, r⟩
  cases o with
  | add =>
    cases v1 with
    | p d =>
      cases d with
      | int i =>
        obtain ⟨j, rfl, hk⟩ := onI.el hq
        cases ra_int h1
        cases ra_int h2
        exact op_add pins s σ H _ _ v u Q I rx ry ⟨i, j, rfl, rfl, r.d hk rfl⟩
      | str a =>
        obtain ⟨b, rfl, hz, hk⟩ := onS.el hq
        cases ra_str h1
        cases ra_str h2
        exact op_add_str pins s σ H _ _ v u Q I rx ry ⟨_, _, rfl, rfl, by rw [sT_len, sT_len]; exact hz, by rw [sT_app]; exact r.d hk rfl⟩
      | tup xs =>
        obtain ⟨ys, rfl, hz, hk⟩ := onT.el hq
        obtain ⟨a, vs, e1, q1, r1⟩ := h1.1
        obtain ⟨b, ws, e2, q2, r2⟩ := h2.1
        subst e1 e2
        refine op_catT2 pins s σ H _ _ v u Q I rx ry ⟨a, b, vs, ws, rfl, rfl, q1.sq, q2.sq, by rw [← r1.len, ← r2.len]; exact hz, fun e => ?_, fun e => ?_, fun p ob hp hd hc => r.tup zt hk (r1.app r2) hp hd hc⟩
        · have e' : ys = [] := by
            have := r2.len
            rw [e] at this
            exact List.eq_nil_of_length_eq_zero this
          rw [e', List.append_nil] at hk
          exact r.d hk ⟨a, vs, rfl, q1, r1⟩
        · have e' : xs = [] := by
            have := r1.len
            rw [e] at this
            exact List.eq_nil_of_length_eq_zero this
          rw [e', List.nil_append] at hk
          exact r.d hk ⟨b, ws, rfl, q2, r2⟩
      | lst xs =>
        obtain ⟨ys, e, hz, hk⟩ := onO.el hq
        obtain ⟨a, vs, e1, q1, r1⟩ := h1.list (ds := xs) rfl
        obtain ⟨b, ws, e2, q2, r2⟩ := h2.list e
        subst e1 e2
        exact op_cat2 pins s σ H _ _ v u Q I rx ry ⟨a, b, vs, ws, rfl, rfl, q1, q2, by rw [← r1.len, ← r2.len]; exact hz, fun p hp => r.lst zt hk (r1.app r2) hp⟩
      | _ => exact (show False from hq).elim
    | ol xs =>
      obtain ⟨ys, e, hz, hk⟩ := onO.el hq
      obtain ⟨a, vs, e1, q1, r1⟩ := h1.list (ds := xs) rfl
      obtain ⟨b, ws, e2, q2, r2⟩ := h2.list e
      subst e1 e2
      exact op_cat2 pins s σ H _ _ v u Q I rx ry ⟨a, b, vs, ws, rfl, rfl, q1, q2, by rw [← r1.len, ← r2.len]; exact hz, fun p hp => r.lst zt hk (r1.app r2) hp⟩
    | _ => exact (show False from hq).elim
  | sub =>
    obtain ⟨i, rfl, hq⟩ := onI.el hq
    obtain ⟨j, rfl, hk⟩ := onI.el hq
    cases ra_int h1
    cases ra_int h2
    exact op_sub pins s σ H _ _ v u Q I rx ry ⟨i, j, rfl, rfl, r.d hk rfl⟩
  | mul =>
    cases v1 with
    | p d =>
      cases d with
      | int i =>
        obtain ⟨j, rfl, hc, hk⟩ := onI.el hq
        cases ra_int h1
        cases ra_int h2
        exact op_mul pins s σ H _ _ v u Q I rx ry ⟨i, j, rfl, rfl, hc, r.d hk rfl⟩
      | str a =>
        obtain ⟨j, rfl, hz, hj0, hj, hk⟩ := onI.el hq
        cases ra_str h1
        cases ra_int h2
        exact mul_strRep pins s σ H _ _ v u Q I rx ry ⟨_, j, rfl, rfl, by rw [sT_len]; exact hz, hj0, hj, r.d hk rfl⟩
      | _ => exact (show False from hq).elim
    | ol xs =>
      obtain ⟨j, rfl, hz, hj0, hj, hk⟩ := onI.el hq
      obtain ⟨a, vs, rfl, rfl, ha, r1⟩ := h1
      cases ra_int h2
      exact op_rep pins s σ H _ _ v u Q I rx ry ⟨a, j, vs, rfl, rfl, ha, by omega, by omega, by rw [← r1.len]; exact hz, fun p hp => r.lst zt hk (r1.rep _) hp⟩
    | _ => exact (show False from hq).elim
  | fdiv =>
    obtain ⟨i, rfl, hq⟩ := onI.el hq
    obtain ⟨j, rfl, h0, hj, hk⟩ := onI.el hq
    cases ra_int h1
    cases ra_int h2
    exact op_fdivW pins s σ H _ _ v u Q I rx ry ⟨i, j, rfl, rfl, wide_div (b := 64) h0 (by omega) (by decide) (by decide), r.d hk rfl⟩
  | mod =>
    obtain ⟨i, rfl, hq⟩ := onI.el hq
    obtain ⟨j, rfl, h0, hk⟩ := onI.el hq
    cases ra_int h1
    cases ra_int h2
    exact op_mod pins s σ H _ _ v u Q I rx ry ⟨i, j, rfl, rfl, h0, r.d hk rfl⟩
  | pow =>
    obtain ⟨i, rfl, hq⟩ := onI.el hq
    obtain ⟨j, rfl, hk⟩ := onI.el hq
    cases ra_int h1
    cases ra_int h2
    cases j with
    | negSucc n => exact hk.elim
    | ofNat n =>
      obtain ⟨h1, h2, hk⟩ := hk
      exact op_pow pins s σ H _ _ v u Q I rx ry ⟨i, Int.ofNat n, rfl, rfl, ⟨Int.natCast_nonneg n, Int.ofNat_le.mpr h1, h2⟩, r.d hk rfl⟩
  | shl =>
    obtain ⟨i, rfl, hq⟩ := onI.el hq
    obtain ⟨j, rfl, hc, hk⟩ := onI.el hq
    cases ra_int h1
    cases ra_int h2
    exact op_shlW pins s σ H _ _ v u Q I rx ry ⟨i, j, rfl, rfl, hc, r.d hk rfl⟩
  | shr =>
    obtain ⟨i, rfl, hq⟩ := onI.el hq
    obtain ⟨j, rfl, hc, hk⟩ := onI.el hq
    cases ra_int h1
    cases ra_int h2
    exact op_shr pins s σ H _ _ v u Q I rx ry ⟨i, j, rfl, rfl, hc, r.d hk rfl⟩
  | band =>
    obtain ⟨i, rfl, hq⟩ := onI.el hq
    obtain ⟨j, rfl, hk⟩ := onI.el hq
    cases ra_int h1
    cases ra_int h2
    exact op_and pins s σ H _ _ v u Q I rx ry ⟨i, j, rfl, rfl, r.d hk rfl⟩
end
mutual
def toPy : D → PyData
  | .non => .none
  | .bl b => .bool b
  | .int i => .int i
  | .str s => .str (sT s)
  | .tup xs => .tuple (toPys xs)
  | .lst xs => .list (toPys xs)
  | .dct _ => .none
  | .exc _ _ => .none
  | .exs _ _ => .none
def toPys : List D → List PyData
  | [] => []
  | x :: r => toPy x :: toPys r
end
theorem toPys_map : ∀ xs : List D, toPys xs = xs.map toPy
  | [] => rfl
  | x :: r => by rw [toPys, toPys_map r]; rfl
mutual
theorem toPy_plain : ∀ d : D, d.dep ≤ 180 → (toPy d).plain = true ∧ (toPy d).depth ≤ d.dep
  | .non, _ => ⟨rfl, Nat.zero_le _⟩
  | .bl _, _ => ⟨rfl, Nat.zero_le _⟩
  | .int _, _ => ⟨rfl, Nat.zero_le _⟩
  | .str _, _ => ⟨rfl, Nat.zero_le _⟩
  | .tup xs, h => by
    have q := toPys_plain xs (by simp only [D.dep] at h; omega)
    simp only [toPy, PyData.plain, PyData.depth, D.dep]
    exact ⟨q.1, by omega⟩
  | .lst xs, h => by
    have q := toPys_plain xs (by simp only [D.dep] at h; omega)
    simp only [toPy, PyData.plain, PyData.depth, D.dep]
    exact ⟨q.1, by omega⟩
  | .dct _, h => by simp [D.dep] at h
  | .exc _ _, h => by simp [D.dep] at h
  | .exs _ _, h => by simp [D.dep] at h
theorem toPys_plain : ∀ xs : List D, depL xs ≤ 180 → PyData.plainAll (toPys xs) = true ∧ PyData.depthAll (toPys xs) ≤ depL xs
  | [], _ => ⟨rfl, Nat.zero_le _⟩
  | x :: r, h => by
    simp only [depL] at h
    have q1 := toPy_plain x (by omega)
    have q2 := toPys_plain r (by omega)
    simp only [toPys, PyData.plainAll, PyData.depthAll, depL]
    rw [q1.1, q2.1]
    exact ⟨rfl, by omega⟩
end
mutual
theorem eqD_py : ∀ d e : D, d.dep ≤ 180 → e.dep ≤ 180 → PyData.eqv (toPy d) (toPy e) = eqD d e
  | .non, e, _, he => by cases e <;> first | (simp [toPy, PyData.eqv, eqD]; done) | (simp [D.dep] at he)
  | .bl b, e, _, he => by
    cases e with
    | int j => exact Bool.eq_iff_iff.mpr (by cases b <;> simp [toPy, PyData.eqv, eqD, b2i])
    | dct _ => simp [D.dep] at he
    | exc _ _ => simp [D.dep] at he
    | exs _ _ => simp [D.dep] at he
    | _ => simp [toPy, PyData.eqv, eqD]
  | .int i, e, _, he => by
    cases e with
    | bl b => exact Bool.eq_iff_iff.mpr (by cases b <;> simp [toPy, PyData.eqv, eqD, b2i])
    | int j => exact Bool.eq_iff_iff.mpr (by simp [toPy, PyData.eqv, eqD])
    | dct _ => simp [D.dep] at he
    | exc _ _ => simp [D.dep] at he
    | exs _ _ => simp [D.dep] at he
    | _ => simp [toPy, PyData.eqv, eqD]
  | .str x, e, _, he => by
    cases e with
    | str y =>
      simp only [toPy, PyData.eqv, eqD]
      by_cases h : x = y
      · subst h; simp
      · rw [decide_eq_false h, beq_eq_false_iff_ne]
        exact fun q => h (sT_inj q)
    | dct _ => simp [D.dep] at he
    | exc _ _ => simp [D.dep] at he
    | exs _ _ => simp [D.dep] at he
    | _ => simp [toPy, PyData.eqv, eqD]
  | .tup xs, e, hd, he => by
    cases e with
    | tup ys =>
      simp only [toPy, PyData.eqv, eqD]
      exact eqL_py xs ys (by simp only [D.dep] at hd; omega) (by simp only [D.dep] at he; omega)
    | dct _ => simp [D.dep] at he
    | exc _ _ => simp [D.dep] at he
    | exs _ _ => simp [D.dep] at he
    | _ => simp [toPy, PyData.eqv, eqD]
  | .lst xs, e, hd, he => by
    cases e with
    | lst ys =>
      simp only [toPy, PyData.eqv, eqD]
      exact eqL_py xs ys (by simp only [D.dep] at hd; omega) (by simp only [D.dep] at he; omega)
    | dct _ => simp [D.dep] at he
    | exc _ _ => simp [D.dep] at he
    | exs _ _ => simp [D.dep] at he
    | _ => simp [toPy, PyData.eqv, eqD]
  | .dct _, _, h, _ => by simp [D.dep] at h
  | .exc _ _, _, h, _ => by simp [D.dep] at h
  | .exs _ _, _, h, _ => by simp [D.dep] at h
theorem eqL_py : ∀ xs ys : List D, depL xs ≤ 180 → depL ys ≤ 180 → PyData.eqvAll (toPys xs) (toPys ys) = eqL xs ys
  | [], [], _, _ => rfl
  | [], _ :: _, _, _ => rfl
  | _ :: _, [], _, _ => rfl
  | x :: xs, y :: ys, hx, hy => by
    simp only [depL] at hx hy
    simp only [toPys, PyData.eqvAll, eqL]
    rw [eqD_py x y (by omega) (by omega), eqL_py xs ys (by omega) (by omega)]
end
section
variable {X : Cx} {pins : List (Addr × Obj)} {σ : L2.St} {H : Hp} {s : Shared} {Z : ZP}
mutual
theorem RD.reads (I : Inv X pins σ H s) : ∀ (d : D) {x : V} {u : Value}, RD X.K H Z d x → RelV x u → d.dep ≤ 180 → ∃ as, Reads s.heap u (toPy d) as
  | .non, _, _, h, r, _ => by cases h; cases r; exact ⟨_, Reads.none⟩
  | .bl b, _, _, h, r, _ => by cases h; cases r; exact ⟨_, Reads.bool b⟩
  | .int i, _, _, h, r, _ => by cases h; obtain ⟨t, rfl⟩ := r; exact ⟨_, Reads.int i t⟩
  | .str x, _, _, h, r, _ => by cases h; obtain ⟨t, rfl⟩ := r; exact ⟨_, Reads.str _ t⟩
  | .tup ds, _, _, h, r, hd => by
    obtain ⟨a, vs, rfl, hs, hr⟩ := h
    cases r
    obtain ⟨its, rv, ⟨o, ho, hc, n, hda⟩, _⟩ := I.tuple hs.sq
    obtain ⟨as, q⟩ := RDs.reads I ds hr rv (by simp only [D.dep] at hd; omega)
    exact ⟨_, Reads.tuple ho hc hda q⟩
  | .lst ds, _, _, h, r, hd => by
    obtain ⟨a, vs, rfl, hs, hr⟩ := h
    cases r
    obtain ⟨its, rv, ⟨o, n, ho, hc, _, hda⟩, _⟩ := I.list hs.sq
    obtain ⟨as, q⟩ := RDs.reads I ds hr rv (by simp only [D.dep] at hd; omega)
    exact ⟨_, Reads.list ho hc hda q⟩
  | .dct _, _, _, _, _, h => by simp [D.dep] at h
  | .exc _ _, _, _, _, _, h => by simp [D.dep] at h
  | .exs _ _, _, _, _, _, h => by simp [D.dep] at h
theorem RDs.reads (I : Inv X pins σ H s) : ∀ (ds : List D) {vs : List V} {us : List Value}, RDs X.K H Z ds vs → Vals vs us → depL ds ≤ 180 → ∃ as, ReadsAll s.heap us (toPys ds) as
  | [], _, _, h, r, _ => by cases h; cases r; exact ⟨_, ReadsAll.nil⟩
  | d :: ds, _, _, h, r, hd => by
    obtain ⟨x, q, rfl, h1, h2⟩ := h
    simp only [depL] at hd
    cases r with
    | cons r1 r2 =>
      obtain ⟨as, q1⟩ := RD.reads I d h1 r1 (by omega)
      obtain ⟨bs, q2⟩ := RDs.reads I ds h2 r2 (by omega)
      exact ⟨_, ReadsAll.cons q1 q2⟩
end
theorem RD.reads' (I : Inv X pins σ H s) {ds : List D} {x : V} {u : Value} (h : RD X.K H Z (.tup ds) x) (r : RelV x u) (hd : depL ds ≤ 180) : ∃ as, Reads s.heap u (.tuple (toPys ds)) as := by
  obtain ⟨a, vs, rfl, hs, hr⟩ := h
  cases r
  obtain ⟨its, rv, ⟨o, ho, hc, n, hda⟩, _⟩ := I.tuple hs.sq
  obtain ⟨as, q⟩ := RDs.reads I ds hr rv hd
  exact ⟨_, Reads.tuple ho hc hda q⟩
/-- .. an owned list too -/
theorem RA.reads (I : Inv X pins σ H s) {v : AV} {d : D} {x : V} {u : Value} {F : List Addr} (h : RA X.K H Z v x F) (e : rdD v = some d) (r : RelV x u) (hd : d.dep ≤ 180) : ∃ as, Reads s.heap u (toPy d) as := by
  cases v with
  | p d' => cases e; exact RD.reads I _ h.1 r hd
  | ol ds =>
    cases e
    obtain ⟨a, vs, rfl, _, hs, hr⟩ := h
    cases r
    obtain ⟨its, rv, ⟨o, n, ho, hc, _, hda⟩, _⟩ := I.list (SqL.of hs)
    obtain ⟨as, q⟩ := RDs.reads I ds hr rv (by simp only [D.dep] at hd; omega)
    exact ⟨_, Reads.list ho hc hda q⟩
  | od kvs => cases e; simp [D.dep] at hd
  | ll a ds =>
    cases e
    obtain ⟨vs, rfl, _, hs, hr⟩ := h
    cases r
    obtain ⟨its, rv, ⟨o, n, ho, hc, _, hda⟩, _⟩ := I.list (SqL.of hs)
    obtain ⟨as, q⟩ := RDs.reads I ds hr rv (by simp only [D.dep] at hd; omega)
    exact ⟨_, Reads.list ho hc hda q⟩
  | ld _ kvs => cases e; simp [D.dep] at hd
  | oi c fs => cases e
/-- a dict as it is read -/
theorem RA.dict {K : PySem.W.Frag} {v : AV} {x : V} {F : List Addr} {kvs : List (Am.Key × D)} (h : RA K H Z v x F) (e : dict? v = some kvs) : ∃ a ws, x = .ref a ∧ Rd H a (.dK ws) ∧ RK K H Z kvs ws := by
  cases v with
  | p d =>
    cases d <;> simp [dict?] at e
    subst e
    obtain ⟨a, ws, h1, _, h2, h3⟩ := h.1
    exact ⟨a, ws, h1, h2, h3⟩
  | od xs =>
    simp [dict?] at e
    subst e
    obtain ⟨a, ws, h1, _, h2, h3⟩ := h
    exact ⟨a, ws, h1, .inl h2, h3⟩
  | ld a xs =>
    simp [dict?] at e
    subst e
    obtain ⟨ws, o, h1, _, h2, h3⟩ := h
    exact ⟨a, ws, h1, .inr ⟨o, h2⟩, h3⟩
  | _ => simp [dict?] at e
theorem RK.val {K : PySem.W.Frag} {kvs : List (Am.Key × D)} : ∀ {ws : List (L2.Key × V)} (k : Am.Key), RK K H Z kvs ws →
    (match getK kvs k with | some d => ∃ x, valV ws (kK k) = some x ∧ RD K H Z d x | none => valV ws (kK k) = none) := by
  induction kvs with
  | nil => intro ws k h; rw [show ws = [] from h]; rfl
  | cons p r ih =>
    obtain ⟨j, d⟩ := p
    rintro ws k ⟨x, q, e, h1, h2⟩
    subst e
    by_cases hk : j = k
    · subst hk
      simp only [getK, if_pos rfl]
      exact ⟨x, valV_pos rfl, h1⟩
    · simp only [getK, if_neg hk]
      have := ih k h2
      rw [valV_neg (p := (kK j, x)) (fun e => hk (kK_inj e))]
      exact this
theorem RK.len {K : PySem.W.Frag} {kvs : List (Am.Key × D)} : ∀ {ws : List (L2.Key × V)}, RK K H Z kvs ws → kvs.length = ws.length := by
  induction kvs with
  | nil => intro ws h; rw [show ws = [] from h]; rfl
  | cons p r ih =>
    rintro ws ⟨x, q, e, h1, h2⟩
    rw [e, List.length_cons, List.length_cons, ih h2]
theorem RK.keq (I : Inv X pins σ H s) {A : Around} (hu : A.units + 180 < cLine) {lws : List (Am.Key × D)} (hl : depK lws ≤ 180) {ls : List (L2.Key × V)} (rl : RK X.K H Z lws ls) {vb : List (L2.Key × Value)} (rb : KV ls vb) :
    ∀ {kvs : List (Am.Key × D)} {ks : List (L2.Key × V)} {va : List (L2.Key × Value)}, RK X.K H Z kvs ks → KV ks va → depK kvs ≤ 180 → PySem.W.KeqHits A s vb va (eqK kvs lws) := by
  have depGet : ∀ (lws : List (Am.Key × D)) (k : Am.Key) (d : D), getK lws k = some d → d.dep ≤ depK lws := by
    intro lws
    induction lws with
    | nil => intro k d h; simp [getK] at h
    | cons p r ih =>
      intro k d h
      obtain ⟨j, e⟩ := p
      simp only [getK] at h
      simp only [depK]
      split at h
      · cases h; omega
      · have := ih k d h; omega
  intro kvs
  induction kvs with
  | nil =>
    intro ks va h r _
    rw [show ks = [] from h] at r
    cases r
    exact .nil
  | cons p r ih =>
    obtain ⟨k, d⟩ := p
    rintro ks va ⟨x, q, e, h1, h2⟩ hr hd
    subst e
    simp only [depK] at hd
    cases hr with
    | @cons _ pv _ vs h t =>
      obtain ⟨k', v⟩ := pv
      obtain ⟨ek, rv⟩ := h
      have ek : kK k = k' := ek
      subst ek
      have hv := rl.val k
      simp only [eqK]
      cases hg : getK lws k with
      | none =>
        rw [hg] at hv
        have : RelO (none : Option V) (valueAt vb (kK k)) := by rw [← hv]; exact rb.val _
        rw [Bool.false_and]
        exact .miss this.none_of
      | some y =>
        rw [hg] at hv
        obtain ⟨z, e1, e2⟩ := hv
        have : RelO (some z) (valueAt vb (kK k)) := by rw [← e1]; exact rb.val _
        obtain ⟨w, ew, rw'⟩ := this.some_of
        have hdy := depGet lws k y hg
        obtain ⟨as, q1⟩ := RD.reads I d h1 rv (by omega)
        obtain ⟨bs, q2⟩ := RD.reads I y e2 rw' (by omega)
        have p1 := toPy_plain d (by omega)
        have p2 := toPy_plain y (by omega)
        refine .hit ew ?_ (ih h2 t (by omega))
        show SeqAt.EqAt A s v w (eqD d y)
        rw [← eqD_py d y (by omega) (by omega)]
        exact SeqAt.eqAt_plain _ _ A s _ _ _ _ q1 q2 p1.1 p2.1 (by have := Nat.min_le_left (toPy d).depth (toPy y).depth; omega)
end
section
variable {X : Cx}
def rBool (K : PySem.W.Frag) (op : AV → AV → (Bool → Prop) → Prop) : R2 := rB K fun x y k => op x y fun b => k (.p (.bl b))
theorem dict_rd {v : AV} {kvs : List (Am.Key × D)} (e : rdD v = some (.dct kvs)) : dict? v = some kvs := by
  cases v with
  | p d => simp [rdD] at e; subst e; rfl
  | od xs => simp [rdD] at e; subst e; rfl
  | ld _ xs => simp [rdD] at e; subst e; rfl
  | _ => simp [rdD] at e
theorem eqDQ_ok (hu : X.A.units + 190 < cLine) {pins : List (Addr × Obj)} {σ : L2.St} {H : Hp} {s : Shared} {Z : ZP} {v1 v2 : AV} {x y : V} {F1 F2 : List Addr} {d e : D} {v u : Value} {k : Bool → Prop} {Q : VK} (I : Inv X pins σ H s)
    (h1 : RA X.K H Z v1 x F1) (h2 : RA X.K H Z v2 y F2) (e1 : rdD v1 = some d) (e2 : rdD v2 = some e) (rx : RelV x v) (ry : RelV y u) (hq : eqDQ d e k) :
    ((∀ b, k b → Q (.bl b) H) → wpAny (model X.prog X.w) X.A (compareOp .Eq v u) (EP X pins σ Q) X.xe s) ∧
      ((∀ b, k b → Q (.bl (!b)) H) → wpAny (model X.prog X.w) X.A (compareOp .NotEq v u) (EP X pins σ Q) X.xe s) := by
  have pl : d.dep ≤ 180 → e.dep ≤ 180 → k (eqD d e) → ((∀ b, k b → Q (.bl b) H) → wpAny (model X.prog X.w) X.A (compareOp .Eq v u) (EP X pins σ Q) X.xe s) ∧
      ((∀ b, k b → Q (.bl (!b)) H) → wpAny (model X.prog X.w) X.A (compareOp .NotEq v u) (EP X pins σ Q) X.xe s) := by
    intro hd he hk
    obtain ⟨as, r1⟩ := h1.reads I e1 rx hd
    obtain ⟨bs, r2⟩ := h2.reads I e2 ry he
    have p1 := toPy_plain d hd
    have p2 := toPy_plain e he
    refine ⟨fun q => SeqAt.eq_plain r1 r2 p1.1 p2.1 (by have := Nat.min_le_left (toPy d).depth (toPy e).depth; omega) ?_, fun q => SeqAt.ne_plain r1 r2 p1.1 p2.1 (by have := Nat.min_le_left (toPy d).depth (toPy e).depth; omega) ?_⟩
    · rw [eqD_py d e hd he]
      exact ⟨.bl _, H, I, rfl, q _ hk⟩
    · rw [eqD_py d e hd he]
      exact ⟨.bl _, H, I, rfl, q _ hk⟩
  cases d with
  | dct kvs =>
    cases e with
    | dct ws =>
      obtain ⟨hd, he, hk⟩ := hq
      obtain ⟨a, w1, rfl, q1, r1⟩ := h1.dict (dict_rd e1)
      obtain ⟨b, w2, rfl, q2, r2⟩ := h2.dict (dict_rd e2)
      cases (show v = Value.ref a from rx)
      cases (show u = Value.ref b from ry)
      obtain ⟨_, ya, va, ra, da⟩ := dk_rd I.hok q1
      obtain ⟨_, yb, vb, rb, db⟩ := dk_rd I.hok q2
      have hits : va.length = vb.length → PySem.W.KeqHits X.A.in1 s vb va (eqK kvs ws) := fun _ => RK.keq I (A := X.A.in1) (by show X.A.units + 1 + 180 < cLine; omega) he r2 rb r1 ra hd
      refine ⟨fun q => PySem.W.keq_eq (knd := mixKind X.prog X.w) (r := eqK kvs ws) ya yb da db (by omega) hits ?_, fun q => PySem.W.keq_ne (knd := mixKind X.prog X.w) (r := eqK kvs ws) ya yb da db (by omega) hits ?_⟩
      · rw [← ra.length, ← rb.length, ← r1.len, ← r2.len]
        exact ⟨.bl _, H, I, rfl, q _ hk⟩
      · rw [← ra.length, ← rb.length, ← r1.len, ← r2.len]
        exact ⟨.bl _, H, I, rfl, q _ hk⟩
    | _ => exact hq.elim
  | _ => exact pl hq.1 hq.2.1 hq.2.2
theorem eqQ_ok (hu : X.A.units + 190 < cLine) {pins : List (Addr × Obj)} {σ : L2.St} {H : Hp} {s : Shared} {Z : ZP} {v1 v2 : AV} {x y : V} {F1 F2 : List Addr} {v u : Value} {k : Bool → Prop} {Q : VK} (I : Inv X pins σ H s)
    (h1 : RA X.K H Z v1 x F1) (h2 : RA X.K H Z v2 y F2) (rx : RelV x v) (ry : RelV y u) (hq : eqQ v1 v2 k) :
    ((∀ b, k b → Q (.bl b) H) → wpAny (model X.prog X.w) X.A (compareOp .Eq v u) (EP X pins σ Q) X.xe s) ∧
      ((∀ b, k b → Q (.bl (!b)) H) → wpAny (model X.prog X.w) X.A (compareOp .NotEq v u) (EP X pins σ Q) X.xe s) := by
  have gen : (onO (rdD v1) fun d => onO (rdD v2) fun e => eqDQ d e k) → ((∀ b, k b → Q (.bl b) H) → wpAny (model X.prog X.w) X.A (compareOp .Eq v u) (EP X pins σ Q) X.xe s) ∧
      ((∀ b, k b → Q (.bl (!b)) H) → wpAny (model X.prog X.w) X.A (compareOp .NotEq v u) (EP X pins σ Q) X.xe s) := fun h => by
    obtain ⟨d, e1, h⟩ := onO.el h
    obtain ⟨e, e2, h⟩ := onO.el h
    exact eqDQ_ok hu I h1 h2 e1 e2 rx ry h
  refine gen ?_
  cases v1 with
  | p d =>
    cases d with
    | int i =>
      cases v2 with
      | p e => cases e <;> first | exact hq | exact ⟨Nat.zero_le _, Nat.zero_le _, by simpa [eqD] using hq⟩ | exact ⟨Nat.zero_le _, hq⟩
      | oi c fs => exact hq
      | _ => exact ⟨Nat.zero_le _, hq⟩
    | str t =>
      cases v2 with
      | p e => cases e <;> first | exact hq | exact ⟨Nat.zero_le _, Nat.zero_le _, by simpa [eqD] using hq⟩ | exact ⟨Nat.zero_le _, hq⟩
      | oi c fs => exact hq
      | _ => exact ⟨Nat.zero_le _, hq⟩
    | _ => exact hq
  | _ => exact hq
def Cp.op : Cp → CmpOp
  | .eq => .Eq | .ne => .NotEq | .lt => .Lt | .le => .LtE | .gt => .Gt | .ge => .GtE | .isin => .In | .notin => .NotIn | .isnon => .Is | .notnon => .IsNot
theorem inQ_ok (hu : X.A.units + 190 < cLine) {pins : List (Addr × Obj)} {σ : L2.St} {H : Hp} {s : Shared} {Z : ZP} {v1 v2 : AV} {x y : V} {F1 F2 : List Addr} {v u : Value} {k : Bool → Prop} {Q : VK} (I : Inv X pins σ H s)
    (h1 : RA X.K H Z v1 x F1) (h2 : RA X.K H Z v2 y F2) (rx : RelV x v) (ry : RelV y u) (hq : inQ v1 v2 k) :
    ((∀ b, k b → Q (.bl b) H) → wpAny (model X.prog X.w) X.A (compareOp .In v u) (EP X pins σ Q) X.xe s) ∧
      ((∀ b, k b → Q (.bl (!b)) H) → wpAny (model X.prog X.w) X.A (compareOp .NotIn v u) (EP X pins σ Q) X.xe s) := by
  have dct : ∀ kvs, dict? v2 = some kvs → (onO (toD v1) fun d => onO (key? d) fun j => k (getK kvs j).isSome) → ((∀ b, k b → Q (.bl b) H) → wpAny (model X.prog X.w) X.A (compareOp .In v u) (EP X pins σ Q) X.xe s) ∧
      ((∀ b, k b → Q (.bl (!b)) H) → wpAny (model X.prog X.w) X.A (compareOp .NotIn v u) (EP X pins σ Q) X.xe s) := fun kvs e h => by
    obtain ⟨d, e1, h⟩ := onO.el h
    obtain ⟨j, e2, hk⟩ := onO.el h
    obtain ⟨a, ws, rfl, q, r⟩ := h2.dict e
    cases (show u = Value.ref a from ry)
    have ex : x = kV (kK j) := by
      cases v1 with
      | p c =>
        cases e1
        cases d with
        | int i => cases e2; exact h1.1
        | str t => cases e2; exact h1.1
        | _ => cases e2
      | ol xs => cases e1; cases e2
      | od xs => cases e1; cases e2
      | _ => cases e1
    subst ex
    have hv := r.val j
    have hg : DGet H a (kV (kK j)) (valV ws (kK j)) := .inl ⟨ws, kK j, q, rfl, rfl⟩
    have es : (valV ws (kK j)).isSome = (getK kvs j).isSome := by
      split at hv
      · rename_i e; obtain ⟨z, e1, _⟩ := hv; rw [e, e1]; rfl
      · rename_i e; rw [e, hv]; rfl
    exact ⟨fun q => d_in (by omega) I hg rx fun s' I' => ⟨.bl _, H, I', rfl, by rw [es]; exact q _ hk⟩, fun q => d_notIn (by omega) I hg rx fun s' I' => ⟨.bl _, H, I', rfl, by rw [es]; exact q _ hk⟩⟩
  have sq : (onO (rdD v1) fun d => onO (seq? v2) fun ys => d.dep ≤ 180 ∧ depL ys ≤ 180 ∧ k (inD d ys)) → ((∀ b, k b → Q (.bl b) H) → wpAny (model X.prog X.w) X.A (compareOp .In v u) (EP X pins σ Q) X.xe s) ∧
      ((∀ b, k b → Q (.bl (!b)) H) → wpAny (model X.prog X.w) X.A (compareOp .NotIn v u) (EP X pins σ Q) X.xe s) := fun h => by
    obtain ⟨d, e1, h⟩ := onO.el h
    obtain ⟨ys, e2, hd, hy, hk⟩ := onO.el h
    obtain ⟨as, r1⟩ := h1.reads I e1 rx hd
    have p1 := toPy_plain d hd
    have p2 := toPys_plain ys hy
    have eany : (toPys ys).any (fun y => PyData.eqv y (toPy d)) = inD d ys := by
      rw [toPys_map, List.any_map, inD]
      clear e2 hk p2
      induction ys with
      | nil => rfl
      | cons z r ih =>
        simp only [depL] at hy
        rw [List.any_cons, List.any_cons, ih (by omega)]
        rw [← eqD_py z d (by omega) hd]
        rfl
    have room : X.A.units + 1 + min (PyData.depthAll (toPys ys)) (toPy d).depth < cLine := by
      have := Nat.min_le_right (PyData.depthAll (toPys ys)) (toPy d).depth
      omega
    have lst : ∀ as2, Reads s.heap u (.list (toPys ys)) as2 → ((∀ b, k b → Q (.bl b) H) → wpAny (model X.prog X.w) X.A (compareOp .In v u) (EP X pins σ Q) X.xe s) ∧
      ((∀ b, k b → Q (.bl (!b)) H) → wpAny (model X.prog X.w) X.A (compareOp .NotIn v u) (EP X pins σ Q) X.xe s) := fun as2 r2 =>
      ⟨fun q => SeqAt.in_list_data r2 r1 p2.1 p1.1 room (by rw [eany]; exact ⟨.bl _, H, I, rfl, q _ hk⟩), fun q => SeqAt.notIn_list_data r2 r1 p2.1 p1.1 room (by rw [eany]; exact ⟨.bl _, H, I, rfl, q _ hk⟩)⟩
    cases v2 with
    | p c =>
      cases c with
      | tup zs =>
        cases e2
        obtain ⟨bs, r2⟩ := RD.reads' I h2.1 ry hy
        exact ⟨fun q => SeqAt.in_tuple_data r2 r1 p2.1 p1.1 room (by rw [eany]; exact ⟨.bl _, H, I, rfl, q _ hk⟩), fun q => SeqAt.notIn_tuple_data r2 r1 p2.1 p1.1 room (by rw [eany]; exact ⟨.bl _, H, I, rfl, q _ hk⟩)⟩
      | lst zs =>
        cases e2
        obtain ⟨a, vs, rfl, hs, hr⟩ := h2.1
        cases ry
        obtain ⟨its, rv, ⟨o, n, ho, hc, _, hda⟩, _⟩ := I.list hs.sq
        obtain ⟨as, q⟩ := RDs.reads I ys hr rv hy
        exact lst _ (Reads.list ho hc hda q)
      | _ => cases e2
    | ol zs =>
      cases e2
      obtain ⟨a, vs, rfl, _, hs, hr⟩ := h2
      cases ry
      obtain ⟨its, rv, ⟨o, n, ho, hc, _, hda⟩, _⟩ := I.list (SqL.of hs)
      obtain ⟨as, q⟩ := RDs.reads I ys hr rv hy
      exact lst _ (Reads.list ho hc hda q)
    | ll a zs =>
      cases e2
      obtain ⟨vs, rfl, _, hs, hr⟩ := h2
      cases ry
      obtain ⟨its, rv, ⟨o, n, ho, hc, _, hda⟩, _⟩ := I.list (SqL.of hs)
      obtain ⟨as, q⟩ := RDs.reads I ys hr rv hy
      exact lst _ (Reads.list ho hc hda q)
    | _ => cases e2
  cases v2 with
  | p e =>
    cases e with
    | str t =>
      obtain ⟨z, rfl, h⟩ := onS.el hq
      split at h
      · rename_i c
        cases ra_str h1
        cases ra_str h2
        have m : (c ∈ (sT t).cps.toList) ↔ c ∈ t := by simp [sT]
        exact ⟨fun q => op_in_sign pins s σ H _ _ v u Q I rx ry ⟨c, sT t, rfl, rfl, by rw [decide_eq_decide.mpr m]; exact q _ h⟩, fun q => op_notIn_sign pins s σ H _ _ v u Q I rx ry ⟨c, sT t, rfl, rfl, by rw [decide_eq_decide.mpr m]; exact q _ h⟩⟩
      · exact h.elim
    | dct kvs => exact dct _ rfl hq
    | _ => exact sq hq
  | od kvs => exact dct _ rfl hq
  | ld _ kvs => exact dct _ rfl hq
  | _ => exact sq hq
end
end Am

set_option maxHeartbeats 4000000
namespace Am
open PySem PySem.Spec PyProof.Rows L2
variable [CN]
section
variable {X : Cx}
theorem RA.non_iff {K : PySem.W.Frag} {H : Hp} {Z : ZP} {v : AV} {x : V} {F : List Addr} (h : RA K H Z v x F) : decide (x = .non) = isN v := by
  cases v with
  | p d =>
    have h := h.1
    cases d with
    | non => cases h; rfl
    | bl b => cases h; rfl
    | int b => cases h; rfl
    | str b => cases h; rfl
    | tup b => obtain ⟨a, vs, rfl, _⟩ := h; rfl
    | lst b => obtain ⟨a, vs, rfl, _⟩ := h; rfl
    | dct b => obtain ⟨a, vs, rfl, _⟩ := h; rfl
    | exc c b => obtain ⟨_, a, oe, ys, rfl, _⟩ := h; rfl
    | exs c b => obtain ⟨_, a, t, oe, ot, tk, n, rfl, _⟩ := h; rfl
  | ol ds => obtain ⟨a, vs, rfl, _⟩ := h; rfl
  | od ds => obtain ⟨a, vs, rfl, _⟩ := h; rfl
  | ld a ds => obtain ⟨vs, o, rfl, _⟩ := h; rfl
  | ll a ds => obtain ⟨vs, rfl, _⟩ := h; rfl
  | oi c fs => obtain ⟨a, vs, rfl, _⟩ := h; rfl
theorem lexI_eq : ∀ xs ys : List Int, lexI xs ys = HT.lexLt xs ys
  | [], [] => rfl
  | [], _ :: _ => rfl
  | _ :: _, [] => rfl
  | x :: xs, y :: ys => by rw [lexI, HT.lexLt_cons, lexI_eq xs ys]
theorem ord_ok {pI : Int → Int → Bool} {pS : T → T → Bool} {op : CmpOp} (hI : OpR X (compareOp op) (rI0 fun i j => .bl (pI i j))) (hS : OpR X (compareOp op) (fun x y H Q => ∃ i j, x = .str i ∧ y = .str j ∧ Q (.bl (pS i.cps.toList j.cps.toList)) H)) :
    OpR X (compareOp op) (rBool X.K fun x y k => ordQ x y pI pS k) := by
  intro pins s σ H x y v u Q I rx ry ⟨Z, v1, v2, F1, F2, k, zt, h1, h2, hq, r⟩
  cases v1 with
  | p d =>
    cases d with
    | int i =>
      obtain ⟨j, rfl, hk⟩ := onI.el hq
      cases ra_int h1
      cases ra_int h2
      exact hI pins s σ H _ _ v u Q I rx ry ⟨i, j, rfl, rfl, r.d hk rfl⟩
    | str a =>
      obtain ⟨b, rfl, hk⟩ := onS.el hq
      cases ra_str h1
      cases ra_str h2
      exact hS pins s σ H _ _ v u Q I rx ry ⟨sT a, sT b, rfl, rfl, r.d (d := .bl _) (by simpa [sT] using hk) rfl⟩
    | _ => exact hq.elim
  | _ => exact hq.elim
theorem RDs.ints {K : PySem.W.Frag} {H : Hp} {Z : ZP} {ds : List D} : ∀ {vs : List V} {ns : List Int}, RDs K H Z ds vs → ints? ds = some ns → vs = ns.map V.int := by
  induction ds with
  | nil => intro vs ns h e; cases e; exact h
  | cons d r ih =>
    rintro vs ns ⟨x, q, e, h1, h2⟩ en
    cases d with
    | int i =>
      simp only [ints?] at en
      cases hr : ints? r with
      | none => rw [hr] at en; cases en
      | some ms =>
        rw [hr] at en
        cases en
        rw [e, ih h2 hr, show x = V.int i from h1]
        rfl
    | _ => cases en
theorem cmp_ok (hu : X.A.units + 190 < cLine) (o : Cp) : OpR X (compareOp o.op) (rBool X.K (cmpQ o)) := by
  intro pins s σ H x y v u Q I rx ry ⟨Z, v1, v2, F1, F2, k, zt, h1, h2, hq, r⟩
  have rb : ∀ b, k (.p (.bl b)) → Q (.bl b) H := fun b h => r.d h rfl
  cases o with
  | eq => exact (eqQ_ok hu I h1 h2 rx ry hq).1 rb
  | ne =>
    have hq : eqQ v1 v2 fun b => k (.p (.bl (nb b))) := hq
    rw [nb_eq] at hq
    exact (eqQ_ok (k := fun b => k (.p (.bl !b))) hu I h1 h2 rx ry hq).2 fun b h => rb _ h
  | isin => exact (inQ_ok hu I h1 h2 rx ry hq).1 rb
  | notin =>
    have hq : inQ v1 v2 fun b => k (.p (.bl (nb b))) := hq
    rw [nb_eq] at hq
    exact (inQ_ok (k := fun b => k (.p (.bl !b))) hu I h1 h2 rx ry hq).2 fun b h => rb _ h
  | lt =>
    have gen : ordQ v1 v2 (fun i j => decide (i < j)) (fun s t => decide (s < t)) (fun b => k (.p (.bl b))) → wpAny (model X.prog X.w) X.A (compareOp .Lt v u) (EP X pins σ Q) X.xe s := fun h =>
      ord_ok (pI := fun i j => decide (i < j)) (pS := fun s t => decide (s < t)) op_lt op_lt_str pins s σ H x y v u Q I rx ry ⟨Z, v1, v2, F1, F2, k, zt, h1, h2, h, r⟩
    cases v1 with
    | p d =>
      cases d with
      | tup xs =>
        obtain ⟨ys, rfl, h⟩ := onT.el hq
        obtain ⟨ns, e1, h⟩ := onO.el h
        obtain ⟨ms, e2, hk⟩ := onO.el h
        obtain ⟨a, vs, rfl, q1, r1⟩ := h1.1
        obtain ⟨c, ws, rfl, q2, r2⟩ := h2.1
        rw [r1.ints e1] at q1
        rw [r2.ints e2] at q2
        have q1 := q1.sq (K := X.K)
        have q2 := q2.sq (K := X.K)
        refine op_ltT (by omega) pins s σ H _ _ v u Q I rx ry ⟨a, c, ns, ms, rfl, rfl, q1, q2, ?_⟩
        rw [← lexI_eq]
        exact rb _ hk
      | _ => exact gen hq
    | _ => exact gen hq
  | le => exact ord_ok (pI := fun i j => decide (i ≤ j)) (pS := fun s t => !decide (t < s)) op_le op_le_str pins s σ H x y v u Q I rx ry ⟨Z, v1, v2, F1, F2, k, zt, h1, h2, hq, r⟩
  | gt => exact ord_ok (pI := fun i j => decide (j < i)) (pS := fun s t => decide (t < s)) op_gt op_gt_str pins s σ H x y v u Q I rx ry ⟨Z, v1, v2, F1, F2, k, zt, h1, h2, hq, r⟩
  | ge => exact ord_ok (pI := fun i j => decide (j ≤ i)) (pS := fun s t => !decide (s < t)) op_ge op_ge_str pins s σ H x y v u Q I rx ry ⟨Z, v1, v2, F1, F2, k, zt, h1, h2, hq, r⟩
  | isnon =>
    cases v2 with
    | p d =>
      cases d with
      | non =>
        cases (show y = V.non from h2.1)
        refine op_isN pins s σ H _ _ v u Q I rx ry ⟨rfl, ?_⟩
        rw [h1.non_iff]
        exact rb _ hq
      | bl b =>
        cases b with
        | true =>
          obtain ⟨b, rfl, hq⟩ := onB.el (show onB v1 fun b => k (.p (.bl b)) from hq)
          cases (show x = V.bl b from h1.1)
          cases (show y = V.bl true from h2.1)
          refine op_is_bl pins s σ H _ _ v u Q I rx ry ⟨b, true, rfl, rfl, ?_⟩
          have : decide (b = true) = b := by cases b <;> rfl
          rw [this]
          exact rb _ hq
        | false =>
          obtain ⟨b, rfl, hq⟩ := onB.el (show onB v1 fun b => k (.p (.bl (nb b))) from hq)
          cases (show x = V.bl b from h1.1)
          cases (show y = V.bl false from h2.1)
          refine op_is_bl pins s σ H _ _ v u Q I rx ry ⟨b, false, rfl, rfl, ?_⟩
          have : decide (b = false) = nb b := by cases b <;> rfl
          rw [this]
          exact rb _ hq
      | _ => exact hq.elim
    | _ => exact hq.elim
  | notnon =>
    cases v2 with
    | p d =>
      cases d with
      | non =>
        have hq : k (.p (.bl (nb (isN v1)))) := hq
        rw [nb_eq] at hq
        cases (show y = V.non from h2.1)
        refine op_notN pins s σ H _ _ v u Q I rx ry ⟨rfl, ?_⟩
        rw [h1.non_iff]
        exact rb _ hq
      | bl b =>
        cases b with
        | true =>
          obtain ⟨b, rfl, hq⟩ := onB.el (show onB v1 fun b => k (.p (.bl (nb b))) from hq)
          cases (show x = V.bl b from h1.1)
          cases (show y = V.bl true from h2.1)
          refine op_isnot_bl pins s σ H _ _ v u Q I rx ry ⟨b, true, rfl, rfl, ?_⟩
          have : (!decide (b = true)) = nb b := by cases b <;> rfl
          rw [this]
          exact rb _ hq
        | false => exact hq.elim
      | _ => exact hq.elim
    | _ => exact hq.elim
theorem ix_dict (hu : X.A.units + 1 < cLine) : IxR X (fun x y H Q => ∃ a v, x = .ref a ∧ DGet H a y (some v) ∧ Q v H) := by
  intro value slice pins s σ H x y v u Q I rx ry ⟨a, w, e, g, q⟩ hs
  subst e
  cases rx
  exact tail_any (dict_typeIs I g) PySem.F.slot_dict_getitem.lookup (d_getItem hu I g ry fun w' s' I' r' => ⟨w, H, I', r', q⟩) hs
theorem key_rd {K : PySem.W.Frag} {H : Hp} {Z : ZP} {v : AV} {d : D} {j : Am.Key} {x : V} {F : List Addr} (h : RA K H Z v x F) (e1 : toD v = some d) (e2 : key? d = some j) : x = kV (kK j) := by
  cases v with
  | p c =>
    cases e1
    cases d with
    | int i => cases e2; exact h.1
    | str t => cases e2; exact h.1
    | _ => cases e2
  | ol xs => cases e1; cases e2
  | od xs => cases e1; cases e2
  | _ => cases e1
theorem idx_ok (hu : X.A.units + 190 < cLine) : IxR X (rB X.K idxQ) := by
  intro value slice pins s σ H x y v u Q I rx ry ⟨Z, v1, v2, F1, F2, k, zt, h1, h2, hq, r⟩ hs
  have dct : ∀ kvs, dict? v1 = some kvs → (onO (toD v2) fun d => onO (key? d) fun j => onO (getK kvs j) fun v => k (.p v)) → wpAny (model X.prog X.w) X.A (subscriptTail value slice v u) (EP X pins σ Q) X.xe s := fun kvs e h => by
    obtain ⟨d, e1, h⟩ := onO.el h
    obtain ⟨j, e2, h⟩ := onO.el h
    obtain ⟨w, e3, hk⟩ := onO.el h
    obtain ⟨a, ws, rfl, q, rk⟩ := h1.dict e
    cases key_rd h2 e1 e2
    have hv := rk.val j
    rw [e3] at hv
    obtain ⟨z, ez, rz⟩ := hv
    exact ix_dict (by omega) value slice pins s σ H _ _ v u Q I rx ry ⟨a, z, rfl, .inl ⟨ws, kK j, q, rfl, ez.symm⟩, r.d hk rz⟩ hs
  have sq : (onO (seq? v1) fun xs => onI v2 fun j => onO (atD xs j) fun v => k (.p v)) → wpAny (model X.prog X.w) X.A (subscriptTail value slice v u) (EP X pins σ Q) X.xe s := fun h => by
    obtain ⟨ds, e1, h⟩ := onO.el h
    obtain ⟨j, rfl, h⟩ := onI.el h
    obtain ⟨d, e3, hk⟩ := onO.el h
    cases ra_int h2
    have fin : ∀ {vs : List V}, RDs X.K H Z ds vs → ∃ z, L2.atI vs j = some z ∧ RD X.K H Z d z := fun {vs} hr => by
      unfold atD at e3
      split at e3
      · rename_i n
        rw [getL_eq] at e3
        obtain ⟨z, h1, h2⟩ := hr.at e3
        exact ⟨z, atI_nat h1, h2⟩
      · rename_i n
        split at e3
        · rename_i hn
          rw [getL_eq] at e3
          obtain ⟨z, h1, h2⟩ := hr.at e3
          refine ⟨z, ix_some (xs := vs) ?_, h2⟩
          unfold atD
          show (if _ < vs.length then getL vs _ else none) = some z
          rw [← hr.len, if_pos hn, getL_eq]
          exact h1
        · cases e3
    have lst : list? v1 = some ds → wpAny (model X.prog X.w) X.A (subscriptTail value slice v u) (EP X pins σ Q) X.xe s := fun el => by
      obtain ⟨a, vs, rfl, q, hr⟩ := h1.list el
      obtain ⟨z, ez, rz⟩ := fin hr
      exact ix_list value slice pins s σ H _ _ v u Q I rx ry ⟨a, vs, j, z, rfl, rfl, q, ez, r.d hk rz⟩ hs
    cases v1 with
    | p c =>
      cases c with
      | tup ys =>
        cases e1
        obtain ⟨a, vs, rfl, q, hr⟩ := h1.1
        obtain ⟨z, ez, rz⟩ := fin hr
        exact ix_tup value slice pins s σ H _ _ v u Q I rx ry ⟨a, vs, j, z, rfl, rfl, q.sq, ez, r.d hk rz⟩ hs
      | lst ys => exact lst e1
      | _ => cases e1
    | ol ys => exact lst e1
    | ll _ ys => exact lst e1
    | _ => cases e1
  cases v1 with
  | p c =>
    cases c with
    | str t =>
      obtain ⟨j, rfl, hz, h⟩ := onI.el hq
      obtain ⟨c, ec, hk⟩ := onO.el h
      cases ra_str h1
      cases ra_int h2
      refine ix_str value slice pins s σ H _ _ v u Q I rx ry ⟨sT t, j, c, rfl, rfl, by rw [sT_len]; exact hz, ?_, r.d hk rfl⟩ hs
      have : (sT t).cps.toList = t := by simp [sT]
      rw [this]
      exact ix_some ec
    | dct kvs => exact dct _ rfl hq
    | _ => exact sq hq
  | od kvs => exact dct _ rfl hq
  | ld _ kvs => exact dct _ rfl hq
  | _ => exact sq hq
theorem clip_eq (n d : Nat) (o : Option Int) : clip n d o = HT.sIx n d o := by cases o <;> rfl
theorem RDs.cut {K : PySem.W.Frag} {H : Hp} {Z : ZP} {ds : List D} {vs : List V} (h : RDs K H Z ds vs) (lo hi : Option Int) : RDs K H Z (cut ds lo hi) (cutV vs lo hi) := by
  unfold Am.cut cutV
  rw [clip_eq, clip_eq, h.len]
  exact (h.drop _).take _
section
variable {prog : Program} {w : World} {A : Around} {E : Value → Shared → Prop} {s : Shared}
theorem getItem_tuple_whole {t sl : Addr} {items : Array Value} {vl vu : Value} {lo hi : Option Int} {Q : Value → Shared → Prop} (ht : IsTup s.heap t items) (hs : s.heap.IsSliceOf sl vl vu .none) (pl : IsPart vl lo) (pu : IsPart vu hi)
    (hw : HT.sIx items.size 0 lo = 0 ∧ HT.sIx items.size items.size hi = items.size) (h : Q (.ref t) s) : wpAny (model prog w) A (getItem (.ref t) (.ref sl)) Q E s := by
  obtain ⟨os, hos, hcs, hds⟩ := id hs
  have hTs : s.TypeIs (.ref sl) "slice" := ⟨os, hos, hcs⟩
  unfold getItem
  try with_reducible refine wpAny_holding ?_
  first | refine wpAny_bind (wpAny_pure ?_) | skip
  refine wpAny_bind (wpAny_sequenceKey ht.typeIs (by decide) ?_)
  refine wpAny_bind (wpAny_callSpecial?_slot (name := Str.ofString "__getitem__") ht.typeIs PyProof.Rows.slot_tuple_getitem
    (wpAny_call_entry PyProof.Rows.slot_tuple_getitem ht.typeIs entry_tuple_getitem ?_ (args_tuple_getitem _ _)))
  show wpAny _ _ (Builtin.Tuple.tupleItemsOf (.ref t) >>= _) _ _ s
  refine wpAny_bind (tupleItemsOf_ ht ?_)
  refine wpAny_bind (wpAny_typeOf hTs ?_)
  rw [if_pos (by decide)]
  refine wpAny_bind (HT.sliceApplied_gen hs pl pu ?_)
  have hyes : (((HT.sIx items.size 0 lo : Nat) : Int) == 0 && (1 : Int) == 1 && (HT.sIx items.size items.size hi - HT.sIx items.size 0 lo) == items.size) = true := by
    rw [hw.1, hw.2]
    simp
  show wpAny _ _ (if (((HT.sIx items.size 0 lo : Nat) : Int) == 0 && (1 : Int) == 1 && (HT.sIx items.size items.size hi - HT.sIx items.size 0 lo) == items.size) = true then _ else _) _ _ s
  rw [if_pos hyes]
  have hx : ∀ (A : Around) (E : Value → Shared → Prop), wpAny (model prog w) A (Builtin.Tuple.tupleIsExact (.ref t)) (fun b s' => b = true ∧ s' = s) E s := fun A E => by
    unfold Builtin.Tuple.tupleIsExact
    exact wpAny_bind (wpAny_typeOf ht.typeIs (wpAny_pure ⟨by decide, rfl⟩))
  refine wpAny_bind (wpAny_mono (hx _ _) (fun b s' hb => ?_) fun _ _ z => z)
  obtain ⟨rfl, rfl⟩ := hb
  rw [if_pos rfl]
  first
    | exact wpAny_bind (wpAny_rule (wpAny_pure ⟨_, rfl, wpAny_pure h⟩))
    | exact wpAny_bind (wpAny_bind (wpAny_rule (wpAny_pure (wpAny_pure ⟨_, rfl, wpAny_pure h⟩))))
    | exact wpAny_bind (wpAny_rule (wpAny_bind (wpAny_pure (wpAny_pure ⟨_, rfl, wpAny_pure h⟩))))
    | exact wpAny_bind (wpAny_bind (wpAny_rule (wpAny_pure ⟨_, rfl, wpAny_pure h⟩)))
theorem revAdj (n : Nat) : Builtin.Slice.sliceAdjust none none (-1) (n : Int) = ((n : Int) - 1, -1) := rfl
theorem revPlaces (n : Nat) : Builtin.Slice.slicePlaces ((n : Int) - 1) (-1) (-1) = n := by
  unfold Builtin.Slice.slicePlaces
  rw [if_neg (by decide)]
  split
  · have : ((n : Int) - 1 - -1 - 1) / -(-1) = (n : Int) - 1 := by
      rw [show (-(-1) : Int) = 1 from rfl, Int.ediv_one]; omega
    rw [this]
    omega
  · omega
theorem fm_congr {α β : Type} {f g : α → Option β} : ∀ {l : List α}, (∀ x ∈ l, f x = g x) → l.filterMap f = l.filterMap g
  | [], _ => rfl
  | a :: l, h => by
    rw [List.filterMap_cons, List.filterMap_cons, h a (by simp), fm_congr fun x hx => h x (List.mem_cons_of_mem _ hx)]
theorem revPick {α : Type} (xs : Array α) : ((List.range xs.size).filterMap fun (k : Nat) => xs[((xs.size : Int) - 1 + (k : Int) * -1).toNat]?) = xs.toList.reverse := by
  have e : ∀ k ∈ List.range xs.size, xs[((xs.size : Int) - 1 + (k : Int) * -1).toNat]? = (fun j => xs[j]?) (xs.size - 1 - k) := fun k hk => by
    have := List.mem_range.mp hk
    show xs[_]? = xs[_]?
    congr 1
    omega
  rw [fm_congr e]
  have := PySem.W.krv_range xs.size
  rw [← Function.comp_def, ← List.filterMap_map, this, List.filterMap_reverse, PySem.W.krv_all]
theorem getItem_tuple_rev {t sl : Addr} {items : Array Value} {u : Tok} {Q : Value → Shared → Prop} (ht : IsTup s.heap t items) (hs : s.heap.IsSliceOf sl .none .none (.int (-1) u))
    (h : Q (.ref s.heap.objs.size) { s with heap := s.heap.push { cls := .type "tuple", data := .seq items.toList.reverse.toArray } })
    (hsz : items.size ≤ sizeLine) : wpAny (model prog w) A (getItem (.ref t) (.ref sl)) Q E s := by
  have htake : sizeOk (.seq items.toList.reverse.toArray) := by
    show items.toList.reverse.toArray.size ≤ sizeLine
    simpa using hsz
  obtain ⟨os, hos, hcs, hds⟩ := id hs
  have hTs : s.TypeIs (.ref sl) "slice" := ⟨os, hos, hcs⟩
  unfold getItem
  try with_reducible refine wpAny_holding ?_
  first | refine wpAny_bind (wpAny_pure ?_) | skip
  refine wpAny_bind (wpAny_sequenceKey ht.typeIs (by decide) ?_)
  refine wpAny_bind (wpAny_callSpecial?_slot (name := Str.ofString "__getitem__") ht.typeIs PyProof.Rows.slot_tuple_getitem
    (wpAny_call_entry PyProof.Rows.slot_tuple_getitem ht.typeIs entry_tuple_getitem ?_ (args_tuple_getitem _ _)))
  show wpAny _ _ (Builtin.Tuple.tupleItemsOf (.ref t) >>= _) _ _ s
  refine wpAny_bind (tupleItemsOf_ ht ?_)
  refine wpAny_bind (wpAny_typeOf hTs ?_)
  rw [if_pos (by decide)]
  have ap : ∀ (A : Around) (E : Value → Shared → Prop), wpAny (model prog w) A (Builtin.Slice.sliceApplied (.ref sl) (pure (items.size : Int))) (fun r s' => r = ((items.size : Int) - 1, -1, items.size) ∧ s' = s) E s := fun A E => by
    unfold Builtin.Slice.sliceApplied Builtin.Slice.sliceFields
    refine wpAny_bind (wpAny_bind (wpAny_field hos hds (x := .none) rfl (wpAny_bind (wpAny_field hos hds (x := .none) rfl (wpAny_bind (wpAny_field hos hds (x := .int (-1) u) rfl (wpAny_pure ?_)))))))
    refine wpAny_bind (slicePart_int ?_)
    show wpAny _ _ (if ((-1 : Int) == 0) = true then _ else _) _ _ s
    rw [if_neg (by decide)]
    refine wpAny_bind (slicePart_none (wpAny_bind (slicePart_none (wpAny_bind (wpAny_pure ?_)))))
    show wpAny _ _ (match Builtin.Slice.sliceAdjust none none (-1) (items.size : Int) with | (lo, hi) => pure (lo, (-1 : Int), Builtin.Slice.slicePlaces lo hi (-1))) _ _ s
    rw [revAdj]
    show wpAny _ _ (pure ((items.size : Int) - 1, (-1 : Int), Builtin.Slice.slicePlaces ((items.size : Int) - 1) (-1) (-1))) _ _ s
    rw [revPlaces]
    exact wpAny_pure ⟨rfl, rfl⟩
  refine wpAny_bind (wpAny_mono (ap _ _) (fun r s' hr => ?_) fun _ _ z => z)
  obtain ⟨rfl, rfl⟩ := hr
  have hno : ¬ ((((items.size : Int) - 1) == 0 && (-1 : Int) == 1 && items.size == items.size) = true) := by simp
  show wpAny _ _ (if ((((items.size : Int) - 1) == 0 && (-1 : Int) == 1 && items.size == items.size)) = true then _ else _) _ _ s'
  rw [if_neg hno, revPick]
  first
    | exact wpAny_bind (m := Builtin.Tuple.tupleExact _) (wpAny_newObj_type (wpAny_pure ⟨_, rfl, wpAny_pure h⟩) htake)
    | exact wpAny_bind (m := Builtin.Tuple.tupleExact _) (wpAny_newObj_type (wpAny_bind (wpAny_pure (wpAny_pure ⟨_, rfl, wpAny_pure h⟩))) htake)
    | exact wpAny_bind (wpAny_bind (m := Builtin.Tuple.tupleExact _) (wpAny_newObj_type (wpAny_pure (wpAny_pure ⟨_, rfl, wpAny_pure h⟩)) htake))
    | exact wpAny_bind (wpAny_bind (m := Builtin.Tuple.tupleExact _) (wpAny_newObj_type (wpAny_pure ⟨_, rfl, wpAny_pure h⟩) htake))
end
def rSl (K : PySem.W.Frag) : V → Option Int → Option Int → Hp → VK → Prop := fun x lo hi H Q => ∃ Z v F k, Zt H Z ∧ RA K H Z v x F ∧ slcQ v lo hi k ∧ ResP K H Z k Q
theorem slc_ok : SlR X (rSl X.K) := by
  intro pins s σ H x v vl vu lo hi sl Q I rx hs pl pu ⟨Z, v1, F, k, zt, h1, hq, r⟩
  have lst : (onO (list? v1) fun xs => k (.ol (Am.cut xs lo hi))) → ∃ T id, typeLookup (.type T) "__getitem__" = pure (some (.builtin id)) ∧ s.TypeIs v T ∧ wpAny (model X.prog X.w) X.A (getItem v (.ref sl)) (EP X pins σ Q) X.xe s := fun h => by
    obtain ⟨ds, e, hk⟩ := onO.el h
    obtain ⟨a, vs, rfl, q, hr⟩ := h1.list e
    exact sl_list pins s σ H _ v vl vu lo hi sl Q I rx hs pl pu ⟨a, vs, rfl, q, fun p hp => r.lst zt hk (hr.cut lo hi) hp⟩
  cases v1 with
  | p d =>
    cases d with
    | str t =>
      cases ra_str h1
      refine sl_str pins s σ H _ v vl vu lo hi sl Q I rx hs pl pu ⟨sT t, rfl, by rw [sT_len]; exact hq.1, ?_⟩
      have e : cutS (sT t) lo hi = sT (Am.cut t lo hi) := by
        unfold cutS Am.cut sT
        simp [clip_eq, Str.length]
      rw [e]
      exact r.d hq.2 rfl
    | tup ds =>
      obtain ⟨a, vs, rfl, q, hr⟩ := h1.1
      by_cases hw : HT.sIx vs.length 0 lo = 0 ∧ HT.sIx vs.length vs.length hi = vs.length
      · cases rx
        obtain ⟨its, rv, ht, hz⟩ := I.tuple q.sq
        have hlen : its.toArray.size = vs.length := by rw [List.size_toArray]; exact rv.length.symm
        refine ⟨"tuple", _, PyProof.Rows.slot_tuple_getitem.lookup, ht.typeIs, ?_⟩
        refine getItem_tuple_whole ht hs pl pu (by rw [hlen]; exact hw) ⟨.ref a, H, I, rfl, ?_⟩
        have e : Am.cut ds lo hi = ds := by
          unfold Am.cut
          rw [clip_eq, clip_eq, hr.len, hw.1, hw.2, List.drop_zero, Nat.sub_zero, ← hr.len, List.take_length]
        have hq : k (.p (.tup (Am.cut ds lo hi))) := hq
        rw [e] at hq
        exact r.d hq ⟨a, vs, rfl, q, hr⟩
      · cases rx
        obtain ⟨its, rv, ht, hz⟩ := I.tuple q.sq
        have hlen : its.toArray.size = vs.length := by rw [List.size_toArray]; exact rv.length.symm
        refine ⟨"tuple", _, PyProof.Rows.slot_tuple_getitem.lookup, ht.typeIs, ?_⟩
        refine HT.getItem_tuple_cut ht hs pl pu (by rw [hlen]; exact hw) ?_ (by rw [hlen]; exact hz)
        rw [hlen]
        exact ⟨.ref s.heap.objs.size, _, Inv.tnew I ((rv.drop (HT.sIx vs.length 0 lo)).take (HT.sIx vs.length vs.length hi - HT.sIx vs.length 0 lo)) (Nat.le_trans (cutV_length vs lo hi) hz), rfl, r.tup zt hq (hr.cut lo hi) (I.hok.fresh (Nat.le_refl _)) rfl rfl⟩
    | _ => exact lst hq
  | _ => exact lst hq
/-- a[::-1] -/
def rRev (K : PySem.W.Frag) : V → Hp → VK → Prop := fun x H Q => ∃ Z v F k, Zt H Z ∧ RA K H Z v x F ∧ revQ v k ∧ ResP K H Z k Q
theorem rev_get {pins : List (Addr × Obj)} {s : Shared} {σ : L2.St} {H : Hp} {x : V} {v : Value} {u : Tok} {sl : Addr} {Q : VK} (I : Inv X pins σ H s) (rx : RelV x v) (hs : s.heap.IsSliceOf sl .none .none (.int (-1) u)) (h : rRev X.K x H Q) :
    ∃ T id, typeLookup (.type T) "__getitem__" = pure (some (.builtin id)) ∧ s.TypeIs v T ∧ wpAny (model X.prog X.w) X.A (getItem v (.ref sl)) (EP X pins σ Q) X.xe s := by
  obtain ⟨Z, v1, F, k, zt, h1, hq, r⟩ := h
  have lst : (onO (list? v1) fun xs => k (.ol xs.reverse)) → ∃ T id, typeLookup (.type T) "__getitem__" = pure (some (.builtin id)) ∧ s.TypeIs v T ∧ wpAny (model X.prog X.w) X.A (getItem v (.ref sl)) (EP X pins σ Q) X.xe s := fun h => by
    obtain ⟨ds, e, hk⟩ := onO.el h
    obtain ⟨a, vs, rfl, q, hr⟩ := h1.list e
    cases rx
    obtain ⟨its, rv, ht, hz⟩ := I.list q
    have hlen := rv.length
    refine ⟨"list", _, slot_list_getitem.lookup, ht.isList.typeIs, ?_⟩
    refine wpAny_getItem_list_slice ht.isList hs .none .none (.int (-1) u) (by decide) ?_ (by rw [List.size_toArray]; omega)
    rw [PySem.W.krv_pick]
    refine ⟨.ref s.heap.objs.size, _, I.laid (t' := s.toks) (o := .lst vs.reverse) (fun b ob q => Heap.get?_push_of_some _ q) (Nat.le_refl _) ?_, rfl, r.lst zt hk hr.rev (I.hok.fresh (Nat.le_refl _))⟩
    exact ⟨by simpa using hz, _, 0, rv.reverse, Heap.get?_push_size _ rfl⟩
  cases v1 with
  | p d =>
    cases d with
    | str z =>
      cases ra_str h1
      obtain ⟨t, rfl⟩ := rx
      obtain ⟨hz, hk⟩ := (show z.length ≤ big ∧ k (.p (.str z.reverse)) from hq)
      obtain ⟨os, hos, hcs, hds⟩ := hs
      refine ⟨"str", _, PySem.F.slot_str_getitem.lookup, typeIs_str _ _ _, ?_⟩
      refine wpAny_getItem_str_slice (l := none) (u := none) (st := some (-1, u)) ⟨os, hos, hcs, hds⟩ rfl ?_
      have ep : (Builtin.Str.strSliceIndices none none (-1) (sT z).length).filterMap ((sT z).cps[·]?) = z.reverse := by
        show (sliceRange (((sT z).cps.size : Int) - 1) (-1) (-1)).filterMap ((sT z).cps[·]?) = z.reverse
        rw [PySem.W.krv_sliceRange, PySem.W.krv_range, List.filterMap_reverse, PySem.W.krv_all]
        rfl
      show Made.post (if ((-1 : Int) == 1 && (Builtin.Str.strSliceIndices none none (-1) (sT z).length).length == (sT z).length) = true then Made.val (.str (sT z) t)
        else Made.str ⟨((Builtin.Str.strSliceIndices none none (-1) (sT z).length).filterMap ((sT z).cps[·]?)).toArray⟩) (EP X pins σ Q) s
      rw [if_neg (by simp), ep]
      exact ⟨by show (sT z.reverse).length ≤ _; rw [sT_len, List.length_reverse]; exact hz, .str (sT z.reverse), H, I.tok _, ⟨_, rfl⟩, r.d hk rfl⟩
    | tup ds =>
      obtain ⟨a, vs, rfl, q, hr⟩ := h1.1
      cases rx
      obtain ⟨its, rv, ht, hz⟩ := I.tuple q.sq
      have hlen : its.toArray.size = vs.length := by rw [List.size_toArray]; exact rv.length.symm
      refine ⟨"tuple", _, PyProof.Rows.slot_tuple_getitem.lookup, ht.typeIs, ?_⟩
      refine getItem_tuple_rev ht hs ?_ (by rw [hlen]; exact hz)
      exact ⟨.ref s.heap.objs.size, _, Inv.tnew I rv.reverse (by simpa using hz), rfl, r.tup zt hq hr.rev (I.hok.fresh (Nat.le_refl _)) rfl rfl⟩
    | _ => exact lst hq
  | _ => exact lst hq
end
end Am

set_option maxHeartbeats 4000000
namespace Am
open PySem PySem.Spec PyProof.Rows L2
variable [CN]
section
variable {K : PySem.W.Frag} {H H' H1 H2 : Hp} {Z Z' Z1 Z2 : ZP} {F F' F1 F2 Fx Fy Fr : List Addr} {α α1 : Sl} {σ : L2.St}
def RS (K : PySem.W.Frag) (H : Hp) (Z : ZP) (α : Sl) (σ : L2.St) (F : List Addr) : Prop := ∃ F0, RAs K H Z α σ F0 ∧ F.Perm F0
theorem RS.perm (h : RS K H Z α σ F) (p : F.Perm F1) : RS K H Z α σ F1 := let ⟨F0, h, q⟩ := h; ⟨F0, h, p.symm.trans q⟩
theorem RS.frame (g : G3 H Z F) (s : Step H Z F H' Z' F') (h : RS K H Z α σ Fx) (hd : ∀ a ∈ Fx, a ∉ F) : RS K H' Z' α σ Fx := let ⟨F0, h, p⟩ := h; ⟨F0, h.frame g s fun a ha => hd a (p.mem_iff.mpr ha), p⟩
theorem g0 (zt : Zt H Z) : G3 H Z [] := ⟨List.nodup_nil, fun a h => absurd h (by simp), fun a h => absurd h (by simp), zt⟩
theorem New.step (n : New H Z H' Z' Fr) (zt : Zt H Z) : Step H Z [] H' Z' Fr := by
  have := (n [] (g0 zt)).1
  rwa [List.nil_append] at this
theorem RS.new (n : New H Z H' Z' Fr) (zt : Zt H Z) (h : RS K H Z α σ F) : RS K H' Z' α σ F := h.frame (g0 zt) (n.step zt) fun _ _ => by simp
theorem RA.new {v : AV} {x : V} (n : New H Z H' Z' Fr) (zt : Zt H Z) (h : RA K H Z v x F) : RA K H' Z' v x F := h.frame (g0 zt) (n.step zt) fun _ _ => by simp
theorem RAs.len : ∀ {α : Sl} {σ : L2.St} {F : List Addr}, RAs K H Z α σ F → α.length = σ.length
  | [], _, _, ⟨e, _⟩ => by rw [e]; rfl
  | none :: r, _, _, ⟨y, q, e, h⟩ => by rw [e, List.length_cons, List.length_cons, RAs.len h]
  | some v :: r, _, _, ⟨x, q, F1, F2, e, _, _, h⟩ => by rw [e, List.length_cons, List.length_cons, RAs.len h]
mutual
theorem RA.keepZ (hz : ∀ a, Z a → Z' a) : ∀ {v : AV} {x : V} {F : List Addr}, RA K H Z v x F → RA K H Z' v x F
  | .p d, _, _, h => ⟨RD.keep (.z hz) _ h.1, h.2⟩
  | .ol ds, _, _, ⟨a, vs, e, ef, ha, r⟩ => ⟨a, vs, e, ef, ha, RDs.keep (.z hz) ds r⟩
  | .od kvs, _, _, ⟨a, ws, e, ef, ha, r⟩ => ⟨a, ws, e, ef, ha, RK.keep (.z hz) kvs r⟩
  | .ld a kvs, _, _, ⟨ws, o, e, ef, ha, r⟩ => ⟨ws, o, e, ef, ha, RK.keep (.z hz) kvs r⟩
  | .ll a ds, _, _, ⟨vs, e, ef, ha, r⟩ => ⟨vs, e, ef, ha, RDs.keep (.z hz) ds r⟩
  | .oi c fs, _, _, ⟨a, vs, e, sh, r⟩ => ⟨a, vs, e, Keep.shell (.z hz) sh, RAs.keepZ hz r⟩
theorem RAs.keepZ (hz : ∀ a, Z a → Z' a) : ∀ {α : List (Option AV)} {σ : L2.St} {F : List Addr}, RAs K H Z α σ F → RAs K H Z' α σ F
  | [], _, _, h => h
  | none :: r, _, _, ⟨y, q, e, h⟩ => ⟨y, q, e, RAs.keepZ hz h⟩
  | some v :: r, _, _, ⟨x, q, F1, F2, e, ef, h1, h2⟩ => ⟨x, q, F1, F2, e, ef, RA.keepZ hz h1, RAs.keepZ hz h2⟩
end
theorem RS.keepZ (hz : ∀ a, Z a → Z' a) (h : RS K H Z α σ F) : RS K H Z' α σ F := let ⟨F0, h, p⟩ := h; ⟨F0, h.keepZ hz, p⟩
theorem RAs.get : ∀ {α : Sl} {σ : L2.St} {F : List Addr} {i : Nat} {v : AV}, RAs K H Z α σ F → getS α i = some v → ∃ x Fi Fr, σ[i]? = some (some x) ∧ RA K H Z v x Fi ∧ F.Perm (Fi ++ Fr) ∧
    (∀ (Z' : ZP), (∀ a, Z a → Z' a) → ∀ w Fw, RA K H Z' w x Fw → ∃ F', RAs K H Z' (setS α i (some w)) σ F' ∧ F'.Perm (Fw ++ Fr)) ∧ ∃ F', RAs K H Z (setS α i none) σ F' ∧ F'.Perm Fr
  | [], _, _, _, _, _, h => by simp [getS, getL] at h
  | none :: r, _, _, 0, _, _, h => by simp [getS, getL] at h
  | some u :: r, _, F, 0, v, ⟨x, q, F1, F2, e, ef, h1, h2⟩, h => by
    have e2 : u = v := by simpa [getS, getL] using h
    subst e2
    subst ef
    refine ⟨x, F1, F2, by rw [e]; rfl, h1, List.Perm.refl _, fun Z' hz w Fw hw => ⟨Fw ++ F2, ⟨x, q, Fw, F2, e, rfl, hw, h2.keepZ hz⟩, List.Perm.refl _⟩, F2, ⟨some x, q, e, h2⟩, List.Perm.refl _⟩
  | none :: r, _, F, i + 1, v, ⟨y, q, e, hr⟩, h => by
    obtain ⟨x, Fi, Fr, h1, h2, h3, h4, F'', h5, h6⟩ := RAs.get (i := i) (v := v) hr (by simpa [getS, getL] using h)
    refine ⟨x, Fi, Fr, by rw [e]; simpa using h1, h2, h3, fun Z' hz w Fw hw => ?_, F'', ⟨y, q, e, h5⟩, h6⟩
    obtain ⟨F', h5, h6⟩ := h4 Z' hz w Fw hw
    exact ⟨F', ⟨y, q, e, h5⟩, h6⟩
  | some u :: r, _, F, i + 1, v, ⟨y, q, F1, F2, e, ef, hu, hr⟩, h => by
    obtain ⟨x, Fi, Fr, h1, h2, h3, h4, F'', h5, h6⟩ := RAs.get (i := i) (v := v) hr (by simpa [getS, getL] using h)
    have sw : ∀ {A B : List Addr}, B.Perm (A ++ Fr) → (F1 ++ B).Perm (A ++ (F1 ++ Fr)) := fun {A B} p => (List.Perm.append_left F1 p).trans (by
      rw [← List.append_assoc, ← List.append_assoc]
      exact List.Perm.append_right Fr List.perm_append_comm)
    refine ⟨x, Fi, F1 ++ Fr, by rw [e]; simpa using h1, h2, by rw [ef]; exact sw h3, fun Z' hz w Fw hw => ?_, F1 ++ F'', ⟨y, q, F1, F'', e, rfl, hu, h5⟩, List.Perm.append_left F1 h6⟩
    obtain ⟨F', h5, h6⟩ := h4 Z' hz w Fw hw
    exact ⟨F1 ++ F', ⟨y, q, F1, F', e, rfl, hu.keepZ hz, h5⟩, sw h6⟩
theorem RAs.put : ∀ {α : Sl} {σ : L2.St} {F : List Addr} {i : Nat}, RAs K H Z α σ F → i < α.length → ∃ Fi Fr, F.Perm (Fi ++ Fr) ∧ (∀ w y Fw, RA K H Z w y Fw → ∃ F', RAs K H Z (setS α i (some w)) (σ.set i (some y)) F' ∧ F'.Perm (Fw ++ Fr)) ∧
    ∀ y, ∃ F', RAs K H Z (setS α i none) (σ.set i y) F' ∧ F'.Perm Fr
  | [], _, _, _, _, h => by simp at h
  | none :: r, _, F, 0, ⟨y, q, e, hr⟩, _ => ⟨[], F, List.Perm.refl _, fun w z Fw hw => ⟨Fw ++ F, ⟨z, q, Fw, F, by rw [e]; rfl, rfl, hw, hr⟩, List.Perm.refl _⟩, fun z => ⟨F, ⟨z, q, by rw [e]; rfl, hr⟩, List.Perm.refl _⟩⟩
  | some u :: r, _, F, 0, ⟨x, q, F1, F2, e, ef, h1, h2⟩, _ => ⟨F1, F2, by rw [ef], fun w z Fw hw => ⟨Fw ++ F2, ⟨z, q, Fw, F2, by rw [e]; rfl, rfl, hw, h2⟩, List.Perm.refl _⟩, fun z => ⟨F2, ⟨z, q, by rw [e]; rfl, h2⟩, List.Perm.refl _⟩⟩
  | none :: r, _, F, i + 1, ⟨y, q, e, hr⟩, h => by
    obtain ⟨Fi, Fr, h3, h4, h5⟩ := RAs.put (i := i) hr (by simpa using h)
    refine ⟨Fi, Fr, h3, fun w z Fw hw => ?_, fun z => ?_⟩
    · obtain ⟨F', h5, h6⟩ := h4 w z Fw hw
      exact ⟨F', ⟨y, q.set i (some z), by rw [e]; rfl, h5⟩, h6⟩
    · obtain ⟨F', h5, h6⟩ := h5 z
      exact ⟨F', ⟨y, q.set i z, by rw [e]; rfl, h5⟩, h6⟩
  | some u :: r, _, F, i + 1, ⟨y, q, F1, F2, e, ef, hu, hr⟩, h => by
    obtain ⟨Fi, Fr, h3, h4, h5⟩ := RAs.put (i := i) hr (by simpa using h)
    have sw : ∀ {A B : List Addr}, B.Perm (A ++ Fr) → (F1 ++ B).Perm (A ++ (F1 ++ Fr)) := fun {A B} p => (List.Perm.append_left F1 p).trans (by
      rw [← List.append_assoc, ← List.append_assoc]
      exact List.Perm.append_right Fr List.perm_append_comm)
    refine ⟨Fi, F1 ++ Fr, by rw [ef]; exact sw h3, fun w z Fw hw => ?_, fun z => ?_⟩
    · obtain ⟨F', h5, h6⟩ := h4 w z Fw hw
      exact ⟨F1 ++ F', ⟨y, q.set i (some z), F1, F', by rw [e]; rfl, rfl, hu, h5⟩, sw h6⟩
    · obtain ⟨F', h5, h6⟩ := h5 z
      exact ⟨F1 ++ F', ⟨y, q.set i z, F1, F', by rw [e]; rfl, rfl, hu, h5⟩, List.Perm.append_left F1 h6⟩
theorem RS.len (h : RS K H Z α σ F) : α.length = σ.length := let ⟨_, h, _⟩ := h; h.len
theorem RS.get {i : Nat} {v : AV} (h : RS K H Z α σ F) (e : getS α i = some v) : ∃ x Fi Fr, σ[i]? = some (some x) ∧ RA K H Z v x Fi ∧ F.Perm (Fi ++ Fr) ∧
    (∀ (Z' : ZP), (∀ a, Z a → Z' a) → ∀ w Fw, RA K H Z' w x Fw → RS K H Z' (setS α i (some w)) σ (Fw ++ Fr)) ∧ RS K H Z (setS α i none) σ Fr := by
  obtain ⟨F0, h, p⟩ := h
  obtain ⟨x, Fi, Fr, h1, h2, h3, h4, F'', h5, h6⟩ := h.get e
  exact ⟨x, Fi, Fr, h1, h2, p.trans h3, fun Z' hz w Fw hw => let ⟨F', a, b⟩ := h4 Z' hz w Fw hw; ⟨F', a, b.symm⟩, F'', h5, h6.symm⟩
theorem RS.put {i : Nat} (h : RS K H Z α σ F) (e : i < α.length) : ∃ Fi Fr, F.Perm (Fi ++ Fr) ∧ (∀ w y Fw, RA K H Z w y Fw → RS K H Z (setS α i (some w)) (σ.set i (some y)) (Fw ++ Fr)) ∧ ∀ y, RS K H Z (setS α i none) (σ.set i y) Fr := by
  obtain ⟨F0, h, p⟩ := h
  obtain ⟨Fi, Fr, h3, h4, h5⟩ := h.put e
  exact ⟨Fi, Fr, p.trans h3, fun w y Fw hw => let ⟨F', a, b⟩ := h4 w y Fw hw; ⟨F', a, b.symm⟩, fun y => let ⟨F', a, b⟩ := h5 y; ⟨F', a, b.symm⟩⟩
theorem midP {A B C : List Addr} : (A ++ (B ++ C)).Perm (B ++ (A ++ C)) := by
  rw [← List.append_assoc, ← List.append_assoc]
  exact List.Perm.append_right C List.perm_append_comm
theorem set_self' {σ : L2.St} {i : Nat} {x : Option V} (hi : σ[i]? = some x) : σ.set i x = σ := by
  obtain ⟨h1, h2⟩ := List.getElem?_eq_some_iff.mp hi
  exact List.ext_getElem? fun j => by
    by_cases hj : i = j
    · subst hj
      rw [List.getElem?_set_self h1, hi]
    · rw [List.getElem?_set_ne hj]
/-- what stands at a place, by the heap -/
def PathTo (σ : L2.St) (H : Hp) (Z : ZP) : Pl → V → Prop
  | .v i, x => σ[i]? = some (some x)
  | .f p c j, x => ∃ a vs, PathTo σ H Z p (.ref a) ∧ Shell H Z c a vs ∧ vs[j]? = some x
theorem PathTo.keep (k : Keep H Z H' Z') : ∀ {p : Pl} {x : V}, PathTo σ H Z p x → PathTo σ H' Z' p x
  | .v _, _, h => h
  | .f _ _ _, _, ⟨a, vs, h, sh, e⟩ => ⟨a, vs, PathTo.keep k h, k.shell sh, e⟩
theorem zip_snd {l : List Str} {vs ws : List V} (h1 : l.length = vs.length) (h2 : l.length = ws.length) (h : l.zip vs = l.zip ws) : vs = ws := by
  have a := List.map_snd_zip (l₁ := l) (l₂ := vs) (by omega)
  have b := List.map_snd_zip (l₁ := l) (l₂ := ws) (by omega)
  rw [← a, ← b, h]
theorem Shell.fn {c d : Nat} {a : Addr} {vs ws : List V} (h : Shell H Z c a vs) (h2 : Shell H Z d a ws) : vs = ws := by
  match c, d, h, h2 with
  | 0, 0, ⟨_, h⟩, ⟨_, h2⟩ => rw [h] at h2; cases h2; rfl
  | 0, 1, ⟨_, h⟩, ⟨_, h2, _⟩ => rw [h] at h2; cases h2
  | 0, _ + 2, ⟨_, h⟩, ⟨_, _, _, h2⟩ => rw [h] at h2; cases h2
  | 1, 0, ⟨_, h, _⟩, ⟨_, h2⟩ => rw [h] at h2; cases h2
  | 1, 1, ⟨_, h, _⟩, ⟨_, h2, _⟩ => rw [h] at h2; cases h2; rfl
  | 1, _ + 2, ⟨_, h, _⟩, ⟨_, _, _, h2⟩ => rw [h] at h2; cases h2
  | _ + 2, 0, ⟨_, _, _, h⟩, ⟨_, h2⟩ => rw [h] at h2; cases h2
  | _ + 2, 1, ⟨_, _, _, h⟩, ⟨_, h2, _⟩ => rw [h] at h2; cases h2
  | c + 2, d + 2, ⟨_, l1, _, h⟩, ⟨_, l2, _, h2⟩ =>
    rw [h] at h2
    injection h2 with h2
    injection h2 with _ _ h2
    have hl : (CN.cfl c).length = (CN.cfl d).length ∨ True := .inr trivial
    have a := List.map_snd_zip (l₁ := CN.cfl c) (l₂ := vs) (by omega)
    have b := List.map_snd_zip (l₁ := CN.cfl d) (l₂ := ws) (by omega)
    rw [← a, ← b, h2]
theorem PathTo.fn : ∀ {p : Pl} {x y : V}, PathTo σ H Z p x → PathTo σ H Z p y → x = y
  | .v _, _, _, h, h2 => by
    have h : _ = _ := h
    have h2 : _ = _ := h2
    rw [h] at h2
    cases h2
    rfl
  | .f p c j, x, y, ⟨a, vs, h, sh, e⟩, ⟨b, ws, h2, sh2, e2⟩ => by
    cases PathTo.fn h h2
    have := sh.fn sh2
    subst this
    rw [e] at e2
    cases e2
    rfl
theorem somes_get {vs : List V} {j : Nat} {x : V} (h : (vs.map some)[j]? = some (some x)) : vs[j]? = some x := by
  rw [List.getElem?_map] at h
  cases e : vs[j]? with
  | none => rw [e] at h; cases h
  | some y => rw [e] at h; cases h; rfl
theorem beq_el {a b : Nat} (h : Nat.beq a b = true) : a = b := Nat.eq_of_beq_eq_true h
theorem plF {p : Pl} {c j : Nat} {v : AV} (e0 : getP (.f p c j) α = some v) : ∃ fs, getP p α = some (.oi c fs) ∧ getS fs j = some v ∧ ∀ w, setP (.f p c j) α w = setP p α (some (.oi c (setS fs j w))) := by
  have e1 : (match getP p α with
    | some (.oi d fs) => (match Nat.beq d c with
      | true => getS fs j
      | false => none)
    | _ => none) = some v := e0
  clear e0
  cases ep : getP p α with
  | none => rw [ep] at e1; cases e1
  | some u =>
    rw [ep] at e1
    cases u with
    | oi d fs =>
      have e2 : (match Nat.beq d c with
        | true => getS fs j
        | false => none) = some v := e1
      clear e1
      cases eb : Nat.beq d c with
      | false => rw [eb] at e2; cases e2
      | true =>
        rw [eb] at e2
        have e2 : getS fs j = some v := e2
        refine ⟨fs, by rw [beq_el eb], e2, fun w => ?_⟩
        show (match getP p α with
          | some (.oi d' fs) => (match Nat.beq d' c with
            | true => setP p α (some (.oi c (setS fs j w)))
            | false => α)
          | _ => α) = _
        rw [ep]
        show (match Nat.beq d c with
            | true => setP p α (some (.oi c (setS fs j w)))
            | false => α) = _
        rw [eb]
    | _ => cases e1
/-- .. or nothing is set -/
theorem plN {p : Pl} {c j : Nat} (h : ∀ fs, getP p α ≠ some (.oi c fs)) (w : Option AV) : setP (.f p c j) α w = α := by
  show (match getP p α with
    | some (.oi d fs) => (match Nat.beq d c with
      | true => setP p α (some (.oi c (setS fs j w)))
      | false => α)
    | _ => α) = _
  cases ep : getP p α with
  | none => rfl
  | some u =>
    cases u with
    | oi d fs =>
      show (match Nat.beq d c with
        | true => setP p α (some (.oi c (setS fs j w)))
        | false => α) = _
      cases eb : Nat.beq d c with
      | false => rfl
      | true => exact absurd (by rw [ep, beq_el eb]) (h fs)
    | _ => rfl
theorem plY {p : Pl} {c j : Nat} {fs : Sl} (h : getP p α = some (.oi c fs)) (w : Option AV) : setP (.f p c j) α w = setP p α (some (.oi c (setS fs j w))) := by
  show (match getP p α with
    | some (.oi d fs) => (match Nat.beq d c with
      | true => setP p α (some (.oi c (setS fs j w)))
      | false => α)
    | _ => α) = _
  rw [h]
  show (match Nat.beq c c with
    | true => setP p α (some (.oi c (setS fs j w)))
    | false => α) = _
  rw [Nat.beq_refl]
theorem RS.lens (rs : RS K H Z α σ F) : ∀ {p : Pl} {v : AV}, getP p α = some v → ∃ x Fi Fr, PathTo σ H Z p x ∧ RA K H Z v x Fi ∧ F.Perm (Fi ++ Fr) ∧
    (∀ (Z' : ZP), (∀ a, Z a → Z' a) → ∀ w Fw, RA K H Z' w x Fw → RS K H Z' (setP p α (some w)) σ (Fw ++ Fr)) ∧ RS K H Z (setP p α none) σ Fr
  | .v i, v, e => rs.get e
  | .f p c j, v, e => by
    obtain ⟨fs, ep, e, es⟩ := plF e
    obtain ⟨x0, Fi0, Fr0, p0, ⟨a, vs, rfl, sh, r0⟩, q0, put0, _⟩ := RS.lens rs ep
    obtain ⟨x, Fi, Fr, h1, h2, h3, h4, F'', h5, h6⟩ := r0.get e
    refine ⟨x, Fi, Fr ++ Fr0, ⟨a, vs, p0, sh, somes_get h1⟩, h2, ?_, fun Z' hz w Fw hw => ?_, ?_⟩
    · refine q0.trans ?_
      rw [← List.append_assoc]
      exact List.Perm.append_right Fr0 h3
    · obtain ⟨F', h5, h6⟩ := h4 Z' hz w Fw hw
      have := put0 Z' hz (.oi c (setS fs j (some w))) F' ⟨a, vs, rfl, Keep.shell (.z hz) sh, h5⟩
      rw [es]
      refine this.perm ?_
      rw [← List.append_assoc]
      exact List.Perm.append_right Fr0 h6
    · have := put0 Z (fun _ h => h) (.oi c (setS fs j none)) F'' ⟨a, vs, rfl, sh, h5⟩
      rw [es]
      exact this.perm (List.Perm.append_right Fr0 h6)
/-- something is put to a place -/
theorem RS.backP (rs : RS K H Z α σ F) : ∀ {p : Pl} {x : V}, PathTo σ H Z p x → (∀ w Fw, RA K H Z w x Fw → ∃ F3 rest, RS K H Z (setP p α (some w)) σ F3 ∧ (F ++ Fw).Perm (F3 ++ rest)) ∧ ∃ F3 rest, RS K H Z (setP p α none) σ F3 ∧ F.Perm (F3 ++ rest)
  | .v i, x, h => by
    have h : σ[i]? = some (some x) := h
    have hlt : i < α.length := by
      rw [rs.len]
      exact (List.getElem?_eq_some_iff.mp h).1
    obtain ⟨Fi, Fr, p1, pu, pn⟩ := rs.put hlt
    refine ⟨fun w Fw hw => ⟨Fw ++ Fr, Fi, ?_, ?_⟩, Fr, Fi, ?_, p1.trans List.perm_append_comm⟩
    · have := pu w x Fw hw
      rwa [set_self' h] at this
    · refine (List.Perm.append_right Fw p1).trans ?_
      rw [List.append_assoc]
      exact List.perm_append_comm.trans (List.Perm.append_right Fi List.perm_append_comm)
    · have := pn (some x)
      rwa [set_self' h] at this
  | .f p c j, x, ⟨a', vs', hp, sh', ej⟩ => by
    by_cases ex : ∃ fs, getP p α = some (.oi c fs)
    · obtain ⟨fs, ep⟩ := ex
      have es := plY (j := j) ep
      obtain ⟨x0, Fi0, Fr0, p0, ⟨a, vs, rfl, sh, r0⟩, q0, put0, _⟩ := RS.lens rs ep
      cases PathTo.fn p0 hp
      rw [← sh.fn sh'] at ej
      have hs : (vs.map some)[j]? = some (some x) := by rw [List.getElem?_map, ej]; rfl
      have hlt : j < fs.length := by
        rw [r0.len]
        exact (List.getElem?_eq_some_iff.mp hs).1
      obtain ⟨Fi, Fr, p1, pu, pn⟩ := r0.put hlt
      refine ⟨fun w Fw hw => ?_, ?_⟩
      · obtain ⟨F', h5, h6⟩ := pu w x Fw hw
        rw [set_self' hs] at h5
        refine ⟨F' ++ Fr0, Fi, ?_, ?_⟩
        · rw [es]
          exact put0 Z (fun _ h => h) _ F' ⟨_, vs, rfl, sh, h5⟩
        · refine (List.Perm.append_right Fw q0).trans ?_
          refine (List.Perm.append_right Fw (List.Perm.append_right Fr0 p1)).trans ?_
          refine List.Perm.trans ?_ (List.Perm.append_right Fi (List.Perm.append_right Fr0 h6.symm))
          simp only [List.append_assoc]
          refine List.perm_append_comm.trans ?_
          simp only [List.append_assoc]
          exact (List.Perm.append_left Fr midP).trans midP
      · obtain ⟨F', h5, h6⟩ := pn (some x)
        rw [set_self' hs] at h5
        refine ⟨F' ++ Fr0, Fi, ?_, ?_⟩
        · rw [es]
          exact put0 Z (fun _ h => h) _ F' ⟨_, vs, rfl, sh, h5⟩
        · refine q0.trans ?_
          refine (List.Perm.append_right Fr0 p1).trans ?_
          refine List.Perm.trans ?_ (List.Perm.append_right Fi (List.Perm.append_right Fr0 h6.symm))
          rw [List.append_assoc]
          exact List.perm_append_comm
    · have es := plN (j := j) (c := c) fun fs h => ex ⟨fs, h⟩
      exact ⟨fun w Fw _ => ⟨F, Fw, by rw [es]; exact rs, List.Perm.refl _⟩, F, [], by rw [es]; exact rs, by rw [List.append_nil]⟩
/-- one step behind another, what is held beside falls away -/
theorem Step.thn (s : Step H Z F H1 Z1 (F1 ++ Fx)) (g : G3 H1 Z1 (F1 ++ Fx)) (t : Step H1 Z1 F1 H2 Z2 F2) : Step H Z F H2 Z2 F2 := (s.trans (t.beside g)).lessR fun _ h => List.mem_append_left _ h
theorem Step.new' (s : Step H Z F H1 Z1 F1) (g : G3 H1 Z1 F1) (n : New H1 Z1 H2 Z2 Fr) : Step H Z F H2 Z2 (F1 ++ Fr) ∧ G3 H2 Z2 (F1 ++ Fr) := ⟨s.trans (n F1 g).1, (n F1 g).2⟩
end
/-- how an exception lies: its class by number, its fields, the class, its own dict, the heap -/
abbrev RX := Nat → List D → Value → Option Addr → Hp → ZP → Prop
section
variable (K : PySem.W.Frag) (rx : RX) (σ : L2.St) (H : Hp) (Z : ZP) (F : List Addr)
def PV (Q : VK) : VP := fun v α' => ∀ H' Z' F' x Fr, Step H Z F H' Z' (F' ++ Fr) → G3 H' Z' (F' ++ Fr) → RS K H' Z' α' σ F' → RA K H' Z' v x Fr → Q x H'
def PX (W : WX) : XP := fun e ds α' => ∀ H' Z' F' cls d, Step H Z F H' Z' F' → G3 H' Z' F' → RS K H' Z' α' σ F' → rx e ds cls d H' Z' → W cls d σ H'
end
section
variable {K : PySem.W.Frag} {rx : RX} {c : Am.Ctx} {W : WX} {H H' H1 H2 : Hp} {Z Z' Z1 Z2 : ZP} {F F' F1 F2 Fx Fy Fr : List Addr} {α α1 : Sl} {σ : L2.St} {X' : XP}
theorem PX.next (h : ∀ e ds α', X' e ds α' → PX K rx σ H Z F W e ds α') (s : Step H Z F H1 Z1 (F1 ++ Fx)) (g : G3 H1 Z1 (F1 ++ Fx)) : ∀ e ds α', X' e ds α' → PX K rx σ H1 Z1 F1 W e ds α' :=
  fun e ds α' x H' Z' F' cls d t g' rs r => h e ds α' x H' Z' F' cls d (s.thn g t) g' rs r
def tE (K : PySem.W.Frag) (rx : RX) (c : Am.Ctx) (W : WX) (m : ME) : TE := fun σ H Q => ∃ α Z F P X', RS K H Z α σ F ∧ G3 H Z F ∧ wpE c m α P X' ∧ (∀ v α', P v α' → PV K σ H Z F Q v α') ∧ ∀ e ds α', X' e ds α' → PX K rx σ H Z F W e ds α'
/-- what stands at a place, as it is read -/
def RdTo (σ : L2.St) (H : Hp) : Pl → V → Prop
  | .v i, x => σ[i]? = some (some x)
  | .f p c j, x => ∃ a vs, RdTo σ H p (.ref a) ∧ Shell H (fun _ => True) c a vs ∧ vs[j]? = some x
theorem PathTo.rd : ∀ {p : Pl} {x : V}, PathTo σ H Z p x → RdTo σ H p x
  | .v _, _, h => h
  | .f _ _ _, _, ⟨a, vs, h, sh, e⟩ => ⟨a, vs, h.rd, Keep.shell (.z fun _ _ => trivial) sh, e⟩
def tPl (p : Pl) : TE := match p with
  | .v i => tVar i
  | .f p c j => fun σ H Q => ∃ x, RdTo σ H (.f p c j) x ∧ Q x H
/-- an operand's reading -/
def tO (K : PySem.W.Frag) (rx : RX) (c : Am.Ctx) (W : WX) (m : ME) : TE := match m with
  | .pl p => tPl p
  | .at p e => fun σ H Q => tPl p σ H fun z H0 => tE K rx c W e σ H0 fun y H1 => ∃ (n : Nat) (ad : Addr) (vs : List V) (x : V), y = .int n ∧ z = .ref ad ∧ Shell H1 (fun _ => True) 0 ad vs ∧ vs[n]? = some x ∧ Q x H1
  | m => tE K rx c W m
def Opd (K : PySem.W.Frag) (H : Hp) (Z : ZP) (σ : L2.St) (a : ME) (x : V) (v : AV) (Fx : List Addr) : Prop := match plOf a v with
  | some p => PathTo σ H Z p x ∧ Fx = []
  | none => RA K H Z v x Fx
/-- a place that is served -/
def okO : ME → Bool
  | _ => true
theorem tPl_of {p : Pl} {x : V} {R : VK} (h : RdTo σ H p x) (q : R x H) : tPl p σ H R := match p, h with
  | .v _, h => ⟨x, h, q⟩
  | .f _ _ _, h => ⟨x, h, q⟩
theorem plOf_none {a : ME} {v : AV} (h1 : ∀ p, a ≠ .pl p) (h2 : ∀ p e, a ≠ .at p e) : plOf a v = none := by
  cases a with
  | pl p => exact absurd rfl (h1 p)
  | «at» p e => exact absurd rfl (h2 p e)
  | _ => rfl
theorem opd_run {a : ME} {k : VP} {R : VK} (ha : okO a = true) (rs : RS K H Z α σ F) (g : G3 H Z F) (w : pre a (fun α k => wpE c a α k X') α k) (hX : ∀ e ds α', X' e ds α' → PX K rx σ H Z F W e ds α')
    (cont : ∀ v α1 H1 Z1 F1 x Fx, k v α1 → Step H Z F H1 Z1 (F1 ++ Fx) → G3 H1 Z1 (F1 ++ Fx) → RS K H1 Z1 α1 σ F1 → Opd K H1 Z1 σ a x v Fx → R x H1) : tO K rx c W a σ H R := by
  have gen : wpE c a α k X' → (∀ x v Fx H1 Z1, RA K H1 Z1 v x Fx → Opd K H1 Z1 σ a x v Fx) → tE K rx c W a σ H R := fun w ho =>
    ⟨α, Z, F, k, X', rs, g, w, fun v α1 hk H1 Z1 F1 x Fx s1 g1 rs1 r1 => cont v α1 H1 Z1 F1 x Fx hk s1 g1 rs1 (ho _ _ _ _ _ r1), hX⟩
  cases a with
  | pl p =>
    obtain ⟨v, e, hk⟩ := onO.el w
    obtain ⟨x, Fi, Fr, h1, h2, _⟩ := rs.lens e
    refine tPl_of h1.rd (cont _ α H Z F x [] hk ?_ ?_ rs ⟨h1, rfl⟩)
    · rw [List.append_nil]; exact .refl
    · rw [List.append_nil]; exact g
  | «at» p e =>
    have w : onO (getP p α) fun _ => wpE c e α (fun v α1 => onNat v fun n => onO (getP (.f p 0 n) α1) fun _ => k (.p (.int (.ofNat n))) α1) X' := w
    obtain ⟨u0, e0, w⟩ := onO.el w
    obtain ⟨x0, _, _, h0, _⟩ := rs.lens e0
    refine tPl_of h0.rd ⟨α, Z, F, _, X', rs, g, w, fun v α1 hk H1 Z1 F1 x Fx s1 g1 rs1 r1 => ?_, hX⟩
    obtain ⟨n, rfl, hk⟩ := onNat.el hk
    obtain ⟨u, e, hk⟩ := onO.el hk
    obtain ⟨y, Fi, Fr, h1, h2, _⟩ := rs1.lens e
    obtain ⟨rfl, rfl⟩ := r1
    obtain ⟨ad, vs, hp, sh, ev⟩ := h1
    exact ⟨n, ad, vs, y, rfl, PathTo.fn (h0.keep (s1.keep g)) hp, Keep.shell (.z fun _ _ => trivial) sh, ev, cont _ α1 H1 Z1 F1 y [] hk s1 g1 rs1 ⟨⟨ad, vs, hp, sh, ev⟩, rfl⟩⟩
  | _ => exact gen w fun _ _ _ _ _ h => h
theorem Opd.frame {a : ME} {x : V} {v : AV} (o : Opd K H1 Z1 σ a x v Fx) (g : G3 H1 Z1 (F1 ++ Fx)) (s : Step H1 Z1 F1 H2 Z2 F2) : Opd K H2 Z2 σ a x v Fx := by
  unfold Opd at o ⊢
  cases e : plOf a v with
  | some p =>
    rw [e] at o
    exact ⟨o.1.keep (s.keep g.left), o.2⟩
  | none =>
    rw [e] at o
    exact RA.frame g.left s o g.dis
theorem Opd.fetch {a : ME} {x : V} {v : AV} {k : AV → Prop} (o : Opd K H Z σ a x v Fx) (rs : RS K H Z α σ F) (w : Am.fetch a v α k) : ∃ v' Fv, RA K H Z v' x Fv ∧ k v' := by
  unfold Opd at o
  unfold Am.fetch at w
  cases e : plOf a v with
  | some p =>
    rw [e] at o w
    obtain ⟨v', e, hk⟩ := onO.el w
    obtain ⟨y, Fi, Fr, h1, h2, _⟩ := rs.lens e
    cases PathTo.fn o.1 h1
    exact ⟨v', Fi, h2, hk⟩
  | none =>
    rw [e] at o w
    exact ⟨v, Fx, o, w⟩
theorem PE.weak {X : Cx} {e : Expr} {t t' : TE} (h : PE X e t) (w : ∀ σ H Q, t' σ H Q → t σ H Q) : PE X e t' := ⟨fun pins s σ H Q I q => h.run pins s σ H Q I (w _ _ _ q)⟩
/-- two operands, then what is done with them -/
theorem two_run {a b : ME} {k : AV → AV → Sl → Prop} {Q : VK} {op : AV → AV → (AV → Prop) → Prop} (ha : okO a = true) (hb : okO b = true) (h : ∃ α Z F, ∃ P : VP, ∃ X' : XP, RS K H Z α σ F ∧ G3 H Z F ∧
      (pre a (fun α k => wpE c a α k X') α fun x α1 => pre b (fun α k => wpE c b α k X') α1 fun y α2 => Am.fetch a x α2 fun x => Am.fetch b y α2 fun y => op x y fun v => P v α2) ∧
      (∀ v α', P v α' → PV K σ H Z F Q v α') ∧ ∀ e ds α', X' e ds α' → PX K rx σ H Z F W e ds α') : tOp (rB K op) (tO K rx c W a) (tO K rx c W b) σ H Q := by
  obtain ⟨α, Z, F, P, X', rs, g, w, hP, hX⟩ := h
  refine opd_run ha rs g w hX fun v1 α1 H1 Z1 F1 x Fx w1 s1 g1 rs1 o1 => ?_
  refine opd_run hb rs1 g1.left w1 (PX.next hX s1 g1) fun v2 α2 H2 Z2 F2 y Fy w2 s2 g2 rs2 o2 => ?_
  obtain ⟨u1, G1, r1, w3⟩ := (o1.frame g1 s2).fetch rs2 w2
  obtain ⟨u2, G2, r2, w4⟩ := o2.fetch rs2 w3
  refine ⟨Z2, u1, u2, G1, G2, fun v => P v α2, g2.zt, r1, r2, w4, fun v hv H' Z' x' Fr n r' => ?_⟩
  have st := Step.new' ((s1.thn g1 s2).lessR fun _ h => List.mem_append_left _ h) g2.left n
  exact hP v α2 hv H' Z' F2 x' Fr st.1 st.2 (rs2.new n g2.zt) r'
end
end Am

set_option maxHeartbeats 4000000
namespace Am
open PySem PySem.Spec PyProof.Rows L2
variable [CN]
section
variable (K : PySem.W.Frag) (H : Hp) (Z : ZP)
def RL : List AV → List V → List Addr → Prop
  | [], xs, F => xs = [] ∧ F = []
  | v :: r, xs, F => ∃ x q F1 F2, xs = x :: q ∧ F = F1 ++ F2 ∧ RA K H Z v x F1 ∧ RL r q F2
/-- as they are read -/
def RLr : List AV → List V → Prop
  | [], xs => xs = []
  | v :: r, xs => ∃ x q F1, xs = x :: q ∧ RA K H Z v x F1 ∧ RLr r q
def OpdL (σ : L2.St) : MEs → List AV → List V → List Addr → Prop
  | .nil, [], xs, F => xs = [] ∧ F = []
  | .cons a r, v :: vs, xs, F => ∃ x q F1 F2, xs = x :: q ∧ F = F1 ++ F2 ∧ Opd K H Z σ a x v F1 ∧ OpdL σ r vs q F2
  | _, _, _, _ => False
end
section
variable {K : PySem.W.Frag} {rx : RX} {c : Am.Ctx} {W : WX} {H H' H1 H2 : Hp} {Z Z' Z1 Z2 : ZP} {F F' F1 F2 Fx Fy Fr Fs : List Addr} {α α1 : Sl} {σ : L2.St} {X' : XP}
theorem RL.frame (g : G3 H Z F) (s : Step H Z F H' Z' F') : ∀ {vs : List AV} {xs : List V} {Fx : List Addr}, RL K H Z vs xs Fx → (∀ a ∈ Fx, a ∉ F) → RL K H' Z' vs xs Fx
  | [], _, _, h, _ => h
  | v :: r, _, _, ⟨x, q, F1, F2, e, ef, h1, h2⟩, hd => by
    subst ef
    exact ⟨x, q, F1, F2, e, rfl, h1.frame g s fun a ha => hd a (List.mem_append_left _ ha), RL.frame g s h2 fun a ha => hd a (List.mem_append_right _ ha)⟩
theorem RL.rd : ∀ {vs : List AV} {xs : List V} {Fx : List Addr}, RL K H Z vs xs Fx → RLr K H Z vs xs
  | [], _, _, h => h.1
  | v :: r, _, _, ⟨x, q, F1, F2, e, _, h1, h2⟩ => ⟨x, q, F1, e, h1, h2.rd⟩
theorem RL.len : ∀ {vs : List AV} {xs : List V} {Fx : List Addr}, RL K H Z vs xs Fx → vs.length = xs.length
  | [], _, _, h => by rw [h.1]; rfl
  | v :: r, _, _, ⟨x, q, F1, F2, e, _, h1, h2⟩ => by rw [e, List.length_cons, List.length_cons, h2.len]
/-- kept values, from the left -/
def tEs (K : PySem.W.Frag) (rx : RX) (c : Am.Ctx) (W : WX) (es : MEs) : TA := fun σ H Q => ∃ α Z F, ∃ P : List AV → Sl → Prop, ∃ X' : XP, RS K H Z α σ F ∧ G3 H Z F ∧ wpEs c es α P X' ∧
  (∀ vs α', P vs α' → ∀ H' Z' F' xs Fr, Step H Z F H' Z' (F' ++ Fr) → G3 H' Z' (F' ++ Fr) → RS K H' Z' α' σ F' → RL K H' Z' vs xs Fr → Q xs H') ∧ ∀ e ds α', X' e ds α' → PX K rx σ H Z F W e ds α'
/-- operands, from the left -/
def tEl (K : PySem.W.Frag) (rx : RX) (c : Am.Ctx) (W : WX) (es : MEs) : TA := fun σ H Q => ∃ α Z F, ∃ P : List AV → Sl → Prop, ∃ X' : XP, RS K H Z α σ F ∧ G3 H Z F ∧ wpEl c es α P X' ∧
  (∀ vs α', P vs α' → ∀ H' Z' F' xs Fr, Step H Z F H' Z' (F' ++ Fr) → G3 H' Z' (F' ++ Fr) → RS K H' Z' α' σ F' → OpdL K H' Z' σ es vs xs Fr → Q xs H') ∧ ∀ e ds α', X' e ds α' → PX K rx σ H Z F W e ds α'
theorem assoc3 {A B C : List Addr} : ((A ++ C) ++ B).Perm (A ++ (B ++ C)) := by
  rw [List.append_assoc]
  exact List.Perm.append_left A List.perm_append_comm
theorem tEs_nil {Q : List V → Hp → Prop} (h : tEs K rx c W .nil σ H Q) : tNil σ H Q := by
  obtain ⟨α, Z, F, P, X', rs, g, w, hP, hX⟩ := h
  exact hP [] α w H Z F [] [] (by rw [List.append_nil]; exact .refl) (by rw [List.append_nil]; exact g) rs ⟨rfl, rfl⟩
theorem tEs_cons {a : ME} {r : MEs} {Q : List V → Hp → Prop} (h : tEs K rx c W (.cons a r) σ H Q) : tCons (tE K rx c W a) (tEs K rx c W r) σ H Q := by
  obtain ⟨α, Z, F, P, X', rs, g, w, hP, hX⟩ := h
  refine ⟨α, Z, F, _, X', rs, g, w, fun v α1 w1 H1 Z1 F1 x Fx s1 g1 rs1 r1 => ?_, hX⟩
  refine ⟨α1, Z1, F1, _, X', rs1, g1.left, w1, fun vs α2 w2 H2 Z2 F2 xs Fr s2 g2 rs2 r2 => ?_, PX.next hX s1 g1⟩
  have gg := G3.beside g1 s2 g2
  exact hP _ α2 w2 H2 Z2 F2 (x :: xs) (Fx ++ Fr) ((s1.trans (s2.beside g1)).permR assoc3) (gg.perm assoc3) rs2 ⟨x, xs, Fx, Fr, rfl, rfl, r1.frame g1.left s2 g1.dis, r2⟩
theorem OpdL.frame {es : MEs} : ∀ {vs : List AV} {xs : List V} {Fx : List Addr}, OpdL K H1 Z1 σ es vs xs Fx → G3 H1 Z1 (F1 ++ Fx) → Step H1 Z1 F1 H2 Z2 F2 → OpdL K H2 Z2 σ es vs xs Fx := by
  intro vs xs Fx o g s
  induction vs generalizing es xs Fx with
  | nil => cases es <;> exact o
  | cons v r ih =>
    cases es with
    | nil => exact o
    | cons a es =>
      obtain ⟨x, q, Fa, Fb, e, ef, h1, h2⟩ := o
      subst ef
      rw [← List.append_assoc] at g
      have ga := g.left
      have gb : G3 H1 Z1 (F1 ++ Fb) := by
        have : ((F1 ++ Fa) ++ Fb).Perm ((F1 ++ Fb) ++ Fa) := by
          rw [List.append_assoc, List.append_assoc]
          exact List.Perm.append_left _ List.perm_append_comm
        exact (g.perm this).left
      exact ⟨x, q, Fa, Fb, e, rfl, h1.frame ga s, ih h2 gb⟩
theorem tEl_nil {Q : List V → Hp → Prop} (h : tEl K rx c W .nil σ H Q) : tNil σ H Q := by
  obtain ⟨α, Z, F, P, X', rs, g, w, hP, hX⟩ := h
  exact hP [] α w H Z F [] [] (by rw [List.append_nil]; exact .refl) (by rw [List.append_nil]; exact g) rs ⟨rfl, rfl⟩
theorem tEl_cons {a : ME} {r : MEs} {Q : List V → Hp → Prop} (ha : okO a = true) (h : tEl K rx c W (.cons a r) σ H Q) : tCons (tO K rx c W a) (tEl K rx c W r) σ H Q := by
  obtain ⟨α, Z, F, P, X', rs, g, w, hP, hX⟩ := h
  refine opd_run ha rs g w hX fun v α1 H1 Z1 F1 x Fx w1 s1 g1 rs1 o1 => ?_
  refine ⟨α1, Z1, F1, _, X', rs1, g1.left, w1, fun vs α2 w2 H2 Z2 F2 xs Fr s2 g2 rs2 r2 => ?_, PX.next hX s1 g1⟩
  have gg := G3.beside g1 s2 g2
  exact hP _ α2 w2 H2 Z2 F2 (x :: xs) (Fx ++ Fr) ((s1.trans (s2.beside g1)).permR assoc3) (gg.perm assoc3) rs2 ⟨x, xs, Fx, Fr, rfl, rfl, o1.frame g1 s2, r2⟩
theorem OpdL.read (rs : RS K H Z α σ F) : ∀ {es : MEs} {vs : List AV} {xs : List V} {Fx : List Addr} {k : List AV → Prop}, OpdL K H Z σ es vs xs Fx → readA es vs α k → ∃ us, RLr K H Z us xs ∧ k us
  | .nil, [], _, _, _, o, w => ⟨[], o.1, w⟩
  | .nil, _ :: _, _, _, _, o, _ => o.elim
  | .cons a r, [], _, _, _, o, _ => o.elim
  | .cons a r, v :: vs, _, _, k, ⟨x, q, F1, F2, e, ef, h1, h2⟩, w => by
    obtain ⟨v', Fv, r1, w1⟩ := h1.fetch rs w
    obtain ⟨us, r2, hk⟩ := OpdL.read rs h2 w1
    exact ⟨v' :: us, ⟨x, q, Fv, e, r1, r2⟩, hk⟩
/-- an object that becomes data -/
theorem RA.frz {v w : AV} {x : V} (h : RA K H Z v x Fx) (e : frz? v = some w) : RA K H (fun a => Z a ∨ a ∈ Fx) w x [] := by
  cases v with
  | p d => cases e; exact ⟨h.toD (d := d) rfl, rfl⟩
  | ol ds => cases e; exact ⟨h.toD (d := .lst ds) rfl, rfl⟩
  | od kvs => cases e; exact ⟨h.toD (d := .dct kvs) rfl, rfl⟩
  | _ => cases e
theorem Opd.keepZ (hz : ∀ a, Z a → Z' a) {a : ME} {v : AV} {x : V} (o : Opd K H Z σ a x v Fx) : Opd K H Z' σ a x v Fx := by
  unfold Opd at o ⊢
  cases e : plOf a v with
  | some p => rw [e] at o; exact ⟨o.1.keep (.z hz), o.2⟩
  | none => rw [e] at o; exact RA.keepZ hz o
theorem OpdL.keepZ (hz : ∀ a, Z a → Z' a) : ∀ {es : MEs} {vs : List AV} {xs : List V} {Fx : List Addr}, OpdL K H Z σ es vs xs Fx → OpdL K H Z' σ es vs xs Fx
  | .nil, [], _, _, o => o
  | .nil, _ :: _, _, _, o => o
  | .cons a r, [], _, _, o => o
  | .cons a r, v :: vs, _, _, ⟨x, q, F1, F2, e, ef, h1, h2⟩ => ⟨x, q, F1, F2, e, ef, h1.keepZ hz, OpdL.keepZ hz h2⟩
theorem assoc3' {A B C : List Addr} : ((A ++ B) ++ C).Perm ((A ++ C) ++ B) := by
  rw [List.append_assoc, List.append_assoc]
  exact List.Perm.append_left A List.perm_append_comm
theorem mid3 {A B C : List Addr} : (A ++ (B ++ C)).Perm (B ++ (A ++ C)) := by
  rw [← List.append_assoc, ← List.append_assoc]
  exact List.Perm.append_right C List.perm_append_comm
theorem Step.frzP (p : F.Perm (Fx ++ F1)) : Step H Z F H (fun a => Z a ∨ a ∈ Fx) F1 := by
  have := (Step.frz (H := H) (Z := Z) (F := F1) (F1 := Fx))
  exact this.permL ((p.trans List.perm_append_comm).symm)
theorem G3.frzP (g : G3 H Z F) (p : F.Perm (Fx ++ F1)) : G3 H (fun a => Z a ∨ a ∈ Fx) F1 := G3.frz (g.perm (p.trans List.perm_append_comm))
theorem takeA_some {sg : List Bool} {a : ME} {r : MEs} {x : AV} {xs : List AV} {k : List AV → Sl → Prop} {p : Pl} (e : plOf a x = some p) : takeA sg (.cons a r) (x :: xs) α k = onO (getP p α) fun v => match v with
      | .p d => takeA (tlB sg) r xs α fun ys α' => k (.p d :: ys) α'
      | v => match sg with
        | true :: _ => onO (frz? v) fun w => takeA (tlB sg) r xs (setP p α (some w)) fun ys α' => k (w :: ys) α'
        | _ => takeA (tlB sg) r xs (setP p α none) fun ys α' => k (v :: ys) α' := by
  conv => lhs; unfold takeA
  rw [e] <;> rfl
theorem takeA_none {sg : List Bool} {a : ME} {r : MEs} {x : AV} {xs : List AV} {k : List AV → Sl → Prop} (e : plOf a x = none) : takeA sg (.cons a r) (x :: xs) α k = takeA (tlB sg) r xs α fun ys α' => k (x :: ys) α' := by
  conv => lhs; unfold takeA
  rw [e]
theorem backA_some {a : ME} {r : MEs} {x : AV} {xs vs : List AV} {v : AV} {w : Option AV} {ws : List (Option AV)} {p : Pl} (e : plOf a x = some p) : backA (.cons a r) (x :: xs) (v :: vs) (w :: ws) α = match v with
      | .p _ => backA r xs vs ws α
      | _ => backA r xs vs ws (setP p α w) := by
  conv => lhs; unfold backA
  rw [e] <;> rfl
theorem backA_none {a : ME} {r : MEs} {x : AV} {xs vs : List AV} {v : AV} {w : Option AV} {ws : List (Option AV)} (e : plOf a x = none) : backA (.cons a r) (x :: xs) (v :: vs) (w :: ws) α = backA r xs vs ws α := by
  conv => lhs; unfold backA
  rw [e]
/-- the arguments are handed over -/
theorem OpdL.take : ∀ {es : MEs} {vs : List AV} {xs : List V} {F Fx : List Addr} {Z : ZP} {α : Sl} {sg : List Bool} {k : List AV → Sl → Prop}, OpdL K H Z σ es vs xs Fx → RS K H Z α σ F → G3 H Z (F ++ Fx) → takeA sg es vs α k →
    ∃ as Fs α2 F2 Z2, RL K H Z2 as xs Fs ∧ RS K H Z2 α2 σ F2 ∧ Step H Z (F ++ Fx) H Z2 (F2 ++ Fs) ∧ G3 H Z2 (F2 ++ Fs) ∧ k as α2
  | .nil, [], _, F, Fx, Z, α, _, _, o, rs, g, w => ⟨[], [], α, F, Z, ⟨o.1, rfl⟩, rs, by
      rw [o.2]; exact .refl, by rw [← o.2]; exact g, w⟩
  | .nil, _ :: _, _, _, _, _, _, _, _, o, _, _, _ => o.elim
  | .cons a r, [], _, _, _, _, _, _, _, o, _, _, _ => o.elim
  | .cons a r, v :: vs, _, F, Fx, Z, α, sg, k, ⟨x, q, Fa, Fb, e, ef, h1, h2⟩, rs, g, w => by
    subst ef
    -- a value that is held
    have gen : RA K H Z v x Fa → (takeA (tlB sg) r vs α fun ys α' => k (v :: ys) α') → ∃ as Fs α2 F2 Z2, RL K H Z2 as (x :: q) Fs ∧ RS K H Z2 α2 σ F2 ∧ Step H Z (F ++ (Fa ++ Fb)) H Z2 (F2 ++ Fs) ∧ G3 H Z2 (F2 ++ Fs) ∧ k as α2 := fun h1 w => by
      have p1 : (F ++ (Fa ++ Fb)).Perm ((F ++ Fb) ++ Fa) := by
        rw [List.append_assoc]
        exact List.Perm.append_left F List.perm_append_comm
      have g1 := g.perm p1
      obtain ⟨as, Fs, α2, F2, Z2, a1, a2, a3, a4, a5⟩ := OpdL.take h2 rs g1.left w
      have pz : ((F2 ++ Fs) ++ Fa).Perm (F2 ++ (Fa ++ Fs)) := assoc3
      refine ⟨v :: as, Fa ++ Fs, α2, F2, Z2, ⟨x, q, Fa, Fs, rfl, rfl, h1.frame g1.left a3 g1.dis, a1⟩, a2, ((a3.beside g1).permL p1.symm).permR pz, (G3.beside g1 a3 a4).perm pz, a5⟩
    subst e
    cases epl : plOf a v with
    | some p =>
        rw [takeA_some epl] at w
        unfold Opd at h1
        rw [epl] at h1
        obtain ⟨u, eu, w⟩ := onO.el w
        obtain ⟨y, Fi, Fr, e1, r1, p1, put, gone⟩ := rs.lens eu
        obtain rfl : x = y := PathTo.fn h1.1 e1
        have eFa := h1.2
        subst eFa
        rw [List.nil_append] at g ⊢
        have mv : (takeA (tlB sg) r vs (setP p α none) fun ys α' => k (u :: ys) α') → ∃ as Fs α2 F2 Z2, RL K H Z2 as (x :: q) Fs ∧ RS K H Z2 α2 σ F2 ∧ Step H Z (F ++ Fb) H Z2 (F2 ++ Fs) ∧ G3 H Z2 (F2 ++ Fs) ∧ k as α2 := fun w => by
          have p2 : (F ++ Fb).Perm ((Fr ++ Fb) ++ Fi) := (List.Perm.append_right Fb p1).trans (by
            rw [List.append_assoc]
            exact List.perm_append_comm)
          have g1 := g.perm p2
          obtain ⟨as, Fs, α2, F2, Z2, a1, a2, a3, a4, a5⟩ := OpdL.take h2 gone g1.left w
          have pz : ((F2 ++ Fs) ++ Fi).Perm (F2 ++ (Fi ++ Fs)) := assoc3
          exact ⟨u :: as, Fi ++ Fs, α2, F2, Z2, ⟨x, q, Fi, Fs, rfl, rfl, r1.frame g1.left a3 g1.dis, a1⟩, a2, ((a3.beside g1).permL p2.symm).permR pz, (G3.beside g1 a3 a4).perm pz, a5⟩
        have fz : (onO (frz? u) fun w => takeA (tlB sg) r vs (setP p α (some w)) fun ys α' => k (w :: ys) α') → ∃ as Fs α2 F2 Z2, RL K H Z2 as (x :: q) Fs ∧ RS K H Z2 α2 σ F2 ∧ Step H Z (F ++ Fb) H Z2 (F2 ++ Fs) ∧ G3 H Z2 (F2 ++ Fs) ∧ k as α2 := fun w => by
          obtain ⟨u2, e2, w⟩ := onO.el w
          have p2 : (F ++ Fb).Perm (Fi ++ (Fr ++ Fb)) := (List.Perm.append_right Fb p1).trans (by rw [List.append_assoc])
          have hz : ∀ a, Z a → (Z a ∨ a ∈ Fi) := fun _ h => .inl h
          have r2 := r1.frz e2
          have rs2 := put (fun a => Z a ∨ a ∈ Fi) hz u2 [] r2
          rw [List.nil_append] at rs2
          have st := Step.frzP (H := H) (Z := Z) p2
          have g2 := G3.frzP g p2
          obtain ⟨as, Fs, α2, F2, Z2, a1, a2, a3, a4, a5⟩ := OpdL.take (h2.keepZ hz) rs2 g2 w
          exact ⟨u2 :: as, Fs, α2, F2, Z2, ⟨x, q, [], Fs, rfl, by rw [List.nil_append], r2.frame g2 a3 fun _ h => absurd h (by simp), a1⟩, a2, st.trans a3, a4, a5⟩
        cases u with
        | p d =>
          obtain ⟨as, Fs, α2, F2, Z2, a1, a2, a3, a4, a5⟩ := OpdL.take h2 rs g w
          exact ⟨.p d :: as, Fs, α2, F2, Z2, ⟨x, q, [], Fs, rfl, by rw [List.nil_append], ⟨RD.keep (a3.keep g) d r1.1, rfl⟩, a1⟩, a2, a3, a4, a5⟩
        | ol ds =>
          cases sg with
          | nil => exact mv w
          | cons b sg => cases b with
            | false => exact mv w
            | true => exact fz w
        | od kvs =>
          cases sg with
          | nil => exact mv w
          | cons b sg => cases b with
            | false => exact mv w
            | true => exact fz w
        | ll a kvs =>
          cases sg with
          | nil => exact mv w
          | cons b sg => cases b with
            | false => exact mv w
            | true => exact fz w
        | ld a kvs =>
          cases sg with
          | nil => exact mv w
          | cons b sg => cases b with
            | false => exact mv w
            | true => exact fz w
        | oi _ _ =>
          cases sg with
          | nil => exact mv w
          | cons b sg => cases b with
            | false => exact mv w
            | true => exact fz w
    | none =>
      rw [takeA_none epl] at w
      unfold Opd at h1
      rw [epl] at h1
      exact gen h1 w
/-- what is handed back -/
def RO (K : PySem.W.Frag) (H : Hp) (Z : ZP) (ws : List (Option AV)) (xs : List V) (F : List Addr) : Prop := RS K H Z ws (xs.map some) F
theorem OpdL.back (kp : Keep H1 Z1 H Z) : ∀ {es : MEs} {vs : List AV} {xs : List V} {F Fx Fo : List Addr} {α : Sl} {as : List AV} {ws : List (Option AV)} {ys : L2.St}, OpdL K H1 Z1 σ es vs xs Fx → RS K H Z α σ F → RAs K H Z ws (xs.map some ++ ys) Fo → as.length = xs.length →
    ∃ F3 rest, RS K H Z (backA es vs as ws α) σ F3 ∧ (F ++ Fo).Perm (F3 ++ rest)
  | .nil, _, _, F, _, Fo, α, as, ws, _, o, rs, ro, _ => ⟨F, Fo, by unfold backA; exact rs, List.Perm.refl _⟩
  | .cons a r, [], _, _, _, _, _, _, _, _, o, _, _, _ => o.elim
  | .cons a r, v :: vs, _, F, _, Fo, α, as, ws, ys, ⟨x, q, Fa, Fb, e, ef, h1, h2⟩, rs, ro, hl => by
    subst e
    cases as with
    | nil => simp at hl
    | cons b as =>
      cases ws with
      | nil =>
        obtain ⟨e, _⟩ := ro
        simp at e
      | cons w ws =>
        have hl' : as.length = q.length := by simpa using hl
        -- what the first one holds, the others' footprint
        obtain ⟨Fw, Fq, er, hw, ro'⟩ : ∃ Fw Fq, Fo = Fw ++ Fq ∧ (∀ u, w = some u → RA K H Z u x Fw) ∧ RAs K H Z ws (q.map some ++ ys) Fq := by
          cases w with
          | none =>
            obtain ⟨y, q', e, h⟩ := ro
            simp only [List.map_cons, List.cons_append, List.cons.injEq] at e
            obtain ⟨_, rfl⟩ := e
            exact ⟨[], Fo, by rw [List.nil_append], (fun u z => nomatch z), h⟩
          | some u =>
            obtain ⟨y, q', F1, F2, e, ef, hu, h⟩ := ro
            simp only [List.map_cons, List.cons_append, List.cons.injEq, Option.some.injEq] at e
            obtain ⟨rfl, rfl⟩ := e
            exact ⟨F1, F2, ef, (fun u z => by cases z; exact hu), h⟩
        have skip : ∃ F3 rest, RS K H Z (backA r vs as ws α) σ F3 ∧ (F ++ Fo).Perm (F3 ++ rest) := by
          obtain ⟨F3, rest, a1, a2⟩ := OpdL.back kp h2 rs ro' hl'
          refine ⟨F3, Fw ++ rest, a1, ?_⟩
          rw [er]
          exact mid3.trans ((List.Perm.append_left Fw a2).trans mid3)
        have put : ∀ p, PathTo σ H Z p x → ∃ F3 rest, RS K H Z (backA r vs as ws (setP p α w)) σ F3 ∧ (F ++ Fo).Perm (F3 ++ rest) := fun p hp => by
          obtain ⟨pu, pn⟩ := rs.backP hp
          cases w with
          | none =>
            obtain ⟨F4, r4, rs2, p1⟩ := pn
            obtain ⟨F3, rest, a1, a2⟩ := OpdL.back kp h2 rs2 ro' hl'
            refine ⟨F3, r4 ++ (Fw ++ rest), a1, ?_⟩
            rw [er]
            refine (List.Perm.append_right _ p1).trans ?_
            rw [List.append_assoc]
            refine mid3.trans ((List.Perm.append_left r4 (mid3.trans ((List.Perm.append_left Fw a2).trans mid3))).trans mid3)
          | some u =>
            obtain ⟨F4, r4, rs2, p1⟩ := pu u Fw (hw u rfl)
            obtain ⟨F3, rest, a1, a2⟩ := OpdL.back kp h2 rs2 ro' hl'
            refine ⟨F3, r4 ++ rest, a1, ?_⟩
            rw [er, ← List.append_assoc]
            refine (List.Perm.append_right _ p1).trans ?_
            rw [List.append_assoc]
            exact mid3.trans ((List.Perm.append_left r4 a2).trans mid3)
        cases epl : plOf a v with
        | some p =>
          have hp : PathTo σ H Z p x := by
            unfold Opd at h1
            rw [epl] at h1
            exact h1.1.keep kp
          rw [backA_some epl]
          cases b with
          | p d => exact skip
          | ol _ => exact put p hp
          | od _ => exact put p hp
          | ld _ _ => exact put p hp
          | ll _ _ => exact put p hp
          | oi _ _ => exact put p hp
        | none =>
          rw [backA_none epl]
          exact skip
end
end Am

set_option maxHeartbeats 4000000
namespace Am
open PySem PySem.Spec PyProof.Rows L2
variable [CN]
/-- the state at an expression, and what is wanted of it -/
structure In (K : PySem.W.Frag) (rx : RX) (W : WX) (σ : L2.St) (H : Hp) (Z : ZP) (F : List Addr) (α : Sl) (P : VP) (X' : XP) (Q : VK) : Prop where
  rs : RS K H Z α σ F
  g : G3 H Z F
  hP : ∀ v α', P v α' → PV K σ H Z F Q v α'
  hX : ∀ e ds α', X' e ds α' → PX K rx σ H Z F W e ds α'
section
variable {K : PySem.W.Frag} {rx : RX} {c : Am.Ctx} {W : WX} {H H' H1 H2 : Hp} {Z Z' Z1 Z2 : ZP} {F F' F1 F2 Fx Fy Fr : List Addr} {α α1 α2 : Sl} {σ : L2.St} {P : VP} {X' : XP} {Q : VK}
theorem In.next (h : In K rx W σ H Z F α P X' Q) (s : Step H Z F H1 Z1 (F1 ++ Fx)) (g : G3 H1 Z1 (F1 ++ Fx)) (rs : RS K H1 Z1 α1 σ F1) : In K rx W σ H1 Z1 F1 α1 P X' Q :=
  ⟨rs, g.left, fun v α' p H' Z' F' x Fr t g' rs r => h.hP v α' p H' Z' F' x Fr (s.thn g t) g' rs r, PX.next h.hX s g⟩
theorem In.fin (h : In K rx W σ H Z F α P X' Q) {v : AV} {x : V} (p : P v α1) (s : Step H Z F H1 Z1 (F1 ++ Fx)) (g : G3 H1 Z1 (F1 ++ Fx)) (rs : RS K H1 Z1 α1 σ F1) (r : RA K H1 Z1 v x Fx) : Q x H1 := h.hP v α1 p H1 Z1 F1 x Fx s g rs r
theorem step0 : Step H Z F H Z (F ++ []) := by rw [List.append_nil]; exact .refl
theorem g30 (g : G3 H Z F) : G3 H Z (F ++ []) := by rw [List.append_nil]; exact g
/-- .. at once -/
theorem In.now (h : In K rx W σ H Z F α P X' Q) {d : D} {x : V} (p : P (.p d) α) (r : RD K H Z d x) : Q x H := h.fin p step0 (g30 h.g) h.rs ⟨r, rfl⟩
theorem tE.of {m : ME} (h : In K rx W σ H Z F α P X' Q) (w : wpE c m α P X') : tE K rx c W m σ H Q := ⟨α, Z, F, P, X', h.rs, h.g, w, h.hP, h.hX⟩
theorem tE.mono {m : ME} {Q' : VK} (h : tE K rx c W m σ H Q) (w : ∀ x H, Q x H → Q' x H) : tE K rx c W m σ H Q' := let ⟨α, Z, F, P, X', a, b, c, d, e⟩ := h; ⟨α, Z, F, P, X', a, b, c, fun v α' p H' Z' F' x Fr s g rs r => w _ _ (d v α' p H' Z' F' x Fr s g rs r), e⟩
theorem tE.el {m : ME} (h : tE K rx c W m σ H Q) : ∃ α Z F P X', In K rx W σ H Z F α P X' Q ∧ wpE c m α P X' := let ⟨α, Z, F, P, X', a, b, w, p, x⟩ := h; ⟨α, Z, F, P, X', ⟨a, b, p, x⟩, w⟩
/-- an operand, then the rest -/
theorem In.opd (h : In K rx W σ H Z F α P X' Q) {a : ME} {k : VP} {R : VK} (ha : okO a = true) (w : pre a (fun α k => wpE c a α k X') α k)
    (cont : ∀ v α1 H1 Z1 F1 x Fx, k v α1 → In K rx W σ H1 Z1 F1 α1 P X' Q → Step H Z F H1 Z1 (F1 ++ Fx) → G3 H1 Z1 (F1 ++ Fx) → Opd K H1 Z1 σ a x v Fx → R x H1) : tO K rx c W a σ H R :=
  opd_run ha h.rs h.g w h.hX fun v α1 H1 Z1 F1 x Fx hk s1 g1 rs1 o1 => cont v α1 H1 Z1 F1 x Fx hk (h.next s1 g1 rs1) s1 g1 o1
theorem In.val (h : In K rx W σ H Z F α P X' Q) {a : ME} {k : VP} {R : VK} (w : wpE c a α k X')
    (cont : ∀ v α1 H1 Z1 F1 x Fx, k v α1 → In K rx W σ H1 Z1 F1 α1 P X' Q → Step H Z F H1 Z1 (F1 ++ Fx) → G3 H1 Z1 (F1 ++ Fx) → RA K H1 Z1 v x Fx → R x H1) : tE K rx c W a σ H R :=
  ⟨α, Z, F, k, X', h.rs, h.g, w, fun v α1 hk H1 Z1 F1 x Fx s1 g1 rs1 r1 => cont v α1 H1 Z1 F1 x Fx hk (h.next s1 g1 rs1) s1 g1 r1, h.hX⟩
/-- a result that is made anew -/
theorem In.res (h : In K rx W σ H Z F α P X' Q) : ResP K H Z (fun v => P v α) Q := fun v hv H' Z' x Fr n r => by
  have st := Step.new' (Step.refl (H := H) (Z := Z) (F := F)) h.g n
  exact h.fin hv st.1 st.2 (h.rs.new n h.g.zt) r
theorem ra_bl {b : Bool} {x : V} (h : RA K H Z (.p (.bl b)) x F) : x = .bl b := h.1
end
def tT (K : PySem.W.Frag) (rx : RX) (c : Am.Ctx) (W : WX) (m : ME) : TT := tB (tE K rx c W m)
section
variable {X : Cx} {rx : RX} {c : Am.Ctx} {W : WX} {a b d e : Expr} {rest es : List Expr} {pos : Pos} {ma mb md : ME} {ms : MEs}
theorem PT.weak {e : Expr} {t t' : TT} (h : PT X e t) (w : ∀ σ H Q, t' σ H Q → t σ H Q) : PT X e t' := ⟨fun pins s σ H Q I q => h.run pins s σ H Q I (w _ _ _ q)⟩
theorem PW.weak {e : Expr} {t t' : TT} (h : PW X e t) (w : ∀ σ H Q, t' σ H Q → t σ H Q) : PW X e t' := ⟨fun wh pins s σ H Q I q => h.run wh pins s σ H Q I (w _ _ _ q)⟩
theorem PA.weak {es : List Expr} {t t' : TA} (h : PA X es t) (w : ∀ σ H Q, t' σ H Q → t σ H Q) : PA X es t' := ⟨fun pos pins s σ H Q I q => h.run pos pins s σ H Q I (w _ _ _ q)⟩
theorem s_var {x : Str} (i : Nat) (hN : X.N[i]? = some x := by rfl) (hv : Vis X.env.scope x := by first | exact .inl rfl | exact .inr (.inl rfl) | exact .inr (.inr rfl)) (hd : (x == ("__debug__" : Str)) = false := by decide) (hcd : (x == ("__classdict__" : Str)) = false := by decide) : PE X (.Name x pos) (tO X.K rx c W (.pl (.v i))) := pe_var hN hv hd hcd
theorem s_varK {x : Str} (i : Nat) (hN : X.N[i]? = some x := by rfl) (hv : Vis X.env.scope x := by first | exact .inl rfl | exact .inr (.inl rfl) | exact .inr (.inr rfl)) (hd : (x == ("__debug__" : Str)) = false := by decide) (hcd : (x == ("__classdict__" : Str)) = false := by decide) : PE X (.Name x pos) (tE X.K rx c W (.pl (.v i))) := by
  refine PE.weak (pe_var hN hv hd hcd) fun σ H Q h => ?_
  obtain ⟨α, Z, F, P, X', I, w⟩ := tE.el h
  have w : (match getP (.v i) α with | some (.p d) => P (.p d) α | some v => onO (frz? v) fun w => P w (setP (.v i) α (some w)) | none => False) := w
  cases e : getP (.v i) α with
  | none => rw [e] at w; exact w.elim
  | some v =>
    rw [e] at w
    obtain ⟨x, Fi, Fr, h1, h2, p1, put, _⟩ := I.rs.get e
    refine ⟨x, h1, ?_⟩
    have gen : (onO (frz? v) fun w => P w (setS α i (some w))) → Q x H := fun w => by
      obtain ⟨u, eu, w⟩ := onO.el w
      have r2 := h2.frz eu
      have rs2 := put (fun a => Z a ∨ a ∈ Fi) (fun _ h => .inl h) u [] r2
      rw [List.nil_append] at rs2
      have st := Step.frzP (H := H) (Z := Z) p1
      have g2 := G3.frzP I.g p1
      exact I.fin w (by rw [List.append_nil]; exact st) (g30 g2) rs2 r2
    cases v with
    | p d => exact I.now w h2.1
    | _ => exact gen w
theorem tC_of {v : V} {k : Cst} (hk : ∀ K H Z, RD K H Z k.d v) {σ : L2.St} {H : Hp} {Q : VK} (h : tE X.K rx c W (.cst k) σ H Q) : tC v σ H Q := by
  obtain ⟨α, Z, F, P, X', I, w⟩ := tE.el h
  exact I.now w (hk _ _ _)
theorem s_int {i : Int} {j} : PE X (.Constant (.int i) j pos) (tE X.K rx c W (.cst (.int i))) := PE.weak pe_int fun _ _ _ => tC_of (k := .int i) fun _ _ _ => rfl
theorem s_str {x : T} {s : Str} {j} (h : s = sT x := by rfl) : PE X (.Constant (.str s) j pos) (tE X.K rx c W (.cst (.str x))) := PE.weak pe_str fun _ _ _ => tC_of (k := .str x) fun _ _ _ => congrArg V.str h
theorem s_bl {i : Bool} {j} : PE X (.Constant (.bool i) j pos) (tE X.K rx c W (.cst (.bl i))) := PE.weak pe_bl fun _ _ _ => tC_of (k := .bl i) fun _ _ _ => rfl
theorem s_non {j} : PE X (.Constant .none j pos) (tE X.K rx c W (.cst .non)) := PE.weak pe_non fun _ _ _ => tC_of (k := .non) fun _ _ _ => rfl
/-- a constant of the module -/
theorem s_gint {x : Str} {i : Int} (hg : Gl X x) {u : Value} (hm : X.mg x = some u) (hr : RelV (.int i) u) (hd : (x == ("__debug__" : Str)) = false := by decide) : PE X (.Name x pos) (tE X.K rx c W (.cst (.int i))) := PE.weak (pe_glob hg hm hr hd) fun _ _ _ => tC_of (k := .int i) fun _ _ _ => rfl
theorem s_gstr {x : Str} {i : T} (hg : Gl X x) {u : Value} (hm : X.mg x = some u) (hr : RelV (.str (sT i)) u) (hd : (x == ("__debug__" : Str)) = false := by decide) : PE X (.Name x pos) (tE X.K rx c W (.cst (.str i))) := PE.weak (pe_glob hg hm hr hd) fun _ _ _ => tC_of (k := .str i) fun _ _ _ => rfl
theorem two_run' {a b : ME} {Q : VK} {σ : L2.St} {H : Hp} {op : AV → AV → (AV → Prop) → Prop} {m : ME} (ha : okO a = true) (hb : okO b = true) (h : tE X.K rx c W m σ H Q)
    (hw : ∀ α P X', wpE c m α P X' → (pre a (fun α k => wpE c a α k X') α fun x α1 => pre b (fun α k => wpE c b α k X') α1 fun y α2 => Am.fetch a x α2 fun x => Am.fetch b y α2 fun y => op x y fun v => P v α2)) :
    tOp (rB X.K op) (tO X.K rx c W a) (tO X.K rx c W b) σ H Q := by
  obtain ⟨α, Z, F, P, X', I, w⟩ := tE.el h
  exact two_run (k := fun _ _ _ => True) ha hb ⟨α, Z, F, P, X', I.rs, I.g, hw _ _ _ w, I.hP, I.hX⟩
theorem s_bin (o : Op) (ha : PE X a (tO X.K rx c W ma)) (hb : PE X b (tO X.K rx c W mb)) {op : Operator} (ho : op = o.op := by rfl) (h1 : okO ma = true := by rfl) (h2 : okO mb = true := by rfl) :
    PE X (.BinOp a op b pos) (tE X.K rx c W (.bin o ma mb)) := by
  subst ho
  exact PE.weak (pe_op (bin_ok o) ha hb) fun σ H Q h => two_run' h1 h2 h fun _ _ _ w => w
variable (hu : X.A.units + 190 < cLine)
include hu
theorem s_cmp (o : Cp) (ha : PE X a (tO X.K rx c W ma)) (hb : PE X b (tO X.K rx c W mb)) {op : CmpOp} (ho : op = o.op := by rfl) (hm : behindInMarks op b = false := by first | exact nomark _ | with_unfolding_all rfl) (h1 : okO ma = true := by rfl) (h2 : okO mb = true := by rfl) :
    PE X (.Compare a [op] [b] pos) (tE X.K rx c W (.cmp o ma mb)) := by
  subst ho
  exact PE.weak (pe_cmpR (cmp_ok hu o) ha hb hm) fun σ H Q h => two_run' h1 h2 h fun _ _ _ w => w
theorem s_cmpT (o : Cp) (ha : PE X a (tO X.K rx c W ma)) (hb : PE X b (tO X.K rx c W mb)) {op : CmpOp} (ho : op = o.op := by rfl) (hm : behindInMarks op b = false := by first | exact nomark _ | with_unfolding_all rfl) (h1 : okO ma = true := by rfl) (h2 : okO mb = true := by rfl) :
    PT X (.Compare a [op] [b] pos) (tT X.K rx c W (.cmp o ma mb)) := by
  subst ho
  exact PT.weak (pt_cmpR (cmp_ok hu o) ha hb hm) fun σ H Q h => two_run' h1 h2 h fun _ _ _ w => w
theorem s_idx (ha : PE X a (tO X.K rx c W ma)) (hb : PE X b (tO X.K rx c W mb)) (hs : PlainIx b := by intro _ _; rfl) (h1 : okO ma = true := by rfl) (h2 : okO mb = true := by rfl) :
    PE X (.Subscript a b pos) (tE X.K rx c W (.idx ma mb)) :=
  PE.weak (pe_ix (idx_ok hu) ha hb hs) fun σ H Q h => two_run' h1 h2 h fun _ _ _ w => w
omit hu
/-- the two comparisons of a chain -/
theorem chain_run {σ : L2.St} {H : Hp} {Q : VK} {o o' : Cp} (h1 : okO ma = true) (h2 : okO mb = true) (h3 : okO md = true) (h : tE X.K rx c W (.chain o o' ma mb md) σ H Q) :
    tChain (rBool X.K (cmpQ o)) (rBool X.K (cmpQ o')) (tO X.K rx c W ma) (tO X.K rx c W mb) (tO X.K rx c W md) σ H Q := by
  obtain ⟨α, Z, F, P, X', I, w⟩ := tE.el h
  refine I.opd h1 w fun v1 α1 H1 Z1 F1 x Fx w1 I1 s1 g1 o1 => ?_
  refine I1.opd h2 w1 fun v2 α2 H2 Z2 F2 y Fy w2 I2 s2 g2 o2 => ?_
  obtain ⟨u1, G1, r1, w3⟩ := (o1.frame g1 s2).fetch I2.rs w2
  obtain ⟨u2, G2, r2, w4⟩ := o2.fetch I2.rs w3
  refine ⟨Z2, u1, u2, G1, G2, fun v => onB v fun r => ifB r (pre md (fun α k => wpE c md α k X') α2 fun z α3 => Am.fetch mb v2 α3 fun y => Am.fetch md z α3 fun z => cmpQ o' y z fun r => P (.p (.bl r)) α3)
        (P (.p (.bl false)) α2), I2.g.zt, r1, r2, w4, ?_⟩
  intro v3 w5 H3 Z3 x3 Fr n r3
  obtain ⟨r, rfl, w5⟩ := onB.el w5
  obtain ⟨rfl, rfl⟩ := r3
  refine ⟨r, rfl, ?_⟩
  -- the heap of the first comparison's end
  have st := n F2 I2.g
  rw [List.append_nil] at st
  have s3 : Step H2 Z2 F2 H3 Z3 (F2 ++ []) := by rw [List.append_nil]; exact st.1
  have g3 : G3 H3 Z3 (F2 ++ []) := by rw [List.append_nil]; exact st.2
  have I3 := I2.next s3 g3 (I2.rs.new n I2.g.zt)
  have o3 := o2.frame g2 st.1
  have g4 : G3 H3 Z3 (F2 ++ Fy) := G3.beside g2 st.1 st.2
  cases r with
  | false => exact I3.now w5 rfl
  | true =>
    rw [if_pos rfl]
    have w5 : pre md (fun α k => wpE c md α k X') α2 fun z α3 => Am.fetch mb v2 α3 fun y => Am.fetch md z α3 fun z => cmpQ o' y z fun r => P (.p (.bl r)) α3 := w5
    refine I3.opd h3 w5 fun v3 α3 H4 Z4 F4 z Fz w6 I4 s4 g4' o4 => ?_
    obtain ⟨u3, G3', r3, w7⟩ := (o3.frame g4 s4).fetch I4.rs w6
    obtain ⟨u4, G4', r4, w8⟩ := o4.fetch I4.rs w7
    exact ⟨Z4, u3, u4, G3', G4', fun v => P v α3, I4.g.zt, r3, r4, w8, I4.res⟩
include hu
theorem s_chain (o o' : Cp) (ha : PE X a (tO X.K rx c W ma)) (hb : PE X b (tO X.K rx c W mb)) (hd : PE X d (tO X.K rx c W md)) {op op' : CmpOp} (ho : op = o.op := by rfl) (ho' : op' = o'.op := by rfl)
    (hm : lastMarks [op, op'] [b, d] = false := by with_unfolding_all rfl) (h1 : okO ma = true := by rfl) (h2 : okO mb = true := by rfl) (h3 : okO md = true := by rfl) : PE X (.Compare a [op, op'] [b, d] pos) (tE X.K rx c W (.chain o o' ma mb md)) := by
  subst ho ho'
  exact PE.weak (pe_chain (cmp_ok hu o) (cmp_ok hu o') ha hb hd hm) fun σ H Q h => chain_run h1 h2 h3 h
theorem s_chainT (o o' : Cp) (ha : PE X a (tO X.K rx c W ma)) (hb : PE X b (tO X.K rx c W mb)) (hd : PE X d (tO X.K rx c W md)) {op op' : CmpOp} (ho : op = o.op := by rfl) (ho' : op' = o'.op := by rfl)
    (hm : lastMarks [op, op'] [b, d] = false := by with_unfolding_all rfl) (h1 : okO ma = true := by rfl) (h2 : okO mb = true := by rfl) (h3 : okO md = true := by rfl) : PT X (.Compare a [op, op'] [b, d] pos) (tT X.K rx c W (.chain o o' ma mb md)) := by
  subst ho ho'
  exact PT.weak (pt_chain (cmp_ok hu o) (cmp_ok hu o') ha hb hd hm) fun σ H Q h => chain_run h1 h2 h3 h
omit hu
theorem and_run {σ : L2.St} {H : Hp} {Q : VK} (h : tE X.K rx c W (.and ma mb) σ H Q) : tAndV (tE X.K rx c W ma) (tE X.K rx c W mb) σ H Q := by
  obtain ⟨α, Z, F, P, X', I, w⟩ := tE.el h
  refine I.val w fun v α1 H1 Z1 F1 x Fx w1 I1 s1 g1 r1 => ?_
  obtain ⟨r, rfl, w2⟩ := onB.el w1
  refine ⟨r, ra_bl r1, ?_⟩
  cases r with
  | false => exact I1.now w2 rfl
  | true => exact tE.of I1 w2
theorem or_run {σ : L2.St} {H : Hp} {Q : VK} (h : tE X.K rx c W (.or ma mb) σ H Q) : tOrV (tE X.K rx c W ma) (tE X.K rx c W mb) σ H Q := by
  obtain ⟨α, Z, F, P, X', I, w⟩ := tE.el h
  refine I.val w fun v α1 H1 Z1 F1 x Fx w1 I1 s1 g1 r1 => ?_
  obtain ⟨r, rfl, w2⟩ := onB.el w1
  refine ⟨r, ra_bl r1, ?_⟩
  cases r with
  | true => exact I1.now w2 rfl
  | false => exact tE.of I1 w2
theorem s_one {op} (h : PE X a (tE X.K rx c W ma)) : PE X (.BoolOp op [a] pos) (tE X.K rx c W ma) := pe_one h
theorem s_and (ha : PE X a (tE X.K rx c W ma)) (hb : PE X (.BoolOp .And (b :: rest) pos) (tE X.K rx c W mb)) : PE X (.BoolOp .And (a :: b :: rest) pos) (tE X.K rx c W (.and ma mb)) := PE.weak (pe_and ha hb) fun _ _ _ h => and_run h
theorem s_or (ha : PE X a (tE X.K rx c W ma)) (hb : PE X (.BoolOp .Or (b :: rest) pos) (tE X.K rx c W mb)) : PE X (.BoolOp .Or (a :: b :: rest) pos) (tE X.K rx c W (.or ma mb)) := PE.weak (pe_or ha hb) fun _ _ _ h => or_run h
theorem s_and1T (ha : PT X a (tT X.K rx c W ma)) : PW X (.BoolOp .And [a] pos) (tT X.K rx c W ma) := pw_and1 ha
theorem s_or1T (ha : PT X a (tT X.K rx c W ma)) : PW X (.BoolOp .Or [a] pos) (tT X.K rx c W ma) := pw_or1 ha
theorem and_runT {σ : L2.St} {H : Hp} {Q : Bool → Hp → Prop} (h : tT X.K rx c W (.and ma mb) σ H Q) : tAnd (tT X.K rx c W ma) (tT X.K rx c W mb) σ H Q := by
  have q : tAndV (tE X.K rx c W ma) (tE X.K rx c W mb) σ H fun x H1 => ∃ c, x = .bl c ∧ Q c H1 := and_run h
  refine tE.mono q fun x H1 ⟨r, e, w⟩ => ⟨r, e, ?_⟩
  cases r with
  | true => exact w
  | false =>
    obtain ⟨_, e, w⟩ := w
    cases e
    exact w
theorem or_runT {σ : L2.St} {H : Hp} {Q : Bool → Hp → Prop} (h : tT X.K rx c W (.or ma mb) σ H Q) : tOr (tT X.K rx c W ma) (tT X.K rx c W mb) σ H Q := by
  have q : tOrV (tE X.K rx c W ma) (tE X.K rx c W mb) σ H fun x H1 => ∃ c, x = .bl c ∧ Q c H1 := or_run h
  refine tE.mono q fun x H1 ⟨r, e, w⟩ => ⟨r, e, ?_⟩
  cases r with
  | false => exact w
  | true =>
    obtain ⟨_, e, w⟩ := w
    cases e
    exact w
theorem s_andT (ha : PT X a (tT X.K rx c W ma)) (hb : PW X (.BoolOp .And (b :: rest) pos) (tT X.K rx c W mb)) : PW X (.BoolOp .And (a :: b :: rest) pos) (tT X.K rx c W (.and ma mb)) := PW.weak (pw_and ha hb) fun _ _ _ h => and_runT h
theorem s_orT (ha : PT X a (tT X.K rx c W ma)) (hb : PW X (.BoolOp .Or (b :: rest) pos) (tT X.K rx c W mb)) : PW X (.BoolOp .Or (a :: b :: rest) pos) (tT X.K rx c W (.or ma mb)) := PW.weak (pw_or ha hb) fun _ _ _ h => or_runT h
theorem not_run {σ : L2.St} {H : Hp} {Q : VK} (h : tE X.K rx c W (.not ma) σ H Q) : tNotV (tE X.K rx c W ma) σ H Q := by
  obtain ⟨α, Z, F, P, X', I, w⟩ := tE.el h
  refine I.val w fun v α1 H1 Z1 F1 x Fx w1 I1 s1 g1 r1 => ?_
  obtain ⟨r, rfl, w2⟩ := onB.el w1
  exact ⟨r, ra_bl r1, I1.now w2 rfl⟩
theorem s_not (ha : PE X a (tE X.K rx c W ma)) : PE X (.UnaryOp .Not a pos) (tE X.K rx c W (.not ma)) := PE.weak (pe_not ha) fun _ _ _ h => not_run h
theorem s_notT (ha : PT X a (tT X.K rx c W ma)) : PT X (.UnaryOp .Not a pos) (tT X.K rx c W (.not ma)) := PT.weak (pt_not ha) fun σ H Q h => by
  have q : tNotV (tE X.K rx c W ma) σ H fun x H1 => ∃ c, x = .bl c ∧ Q c H1 := not_run h
  refine tE.mono q fun x H1 ⟨r, e, w⟩ => ⟨r, e, ?_⟩
  obtain ⟨_, e, w⟩ := w
  cases e
  exact w
theorem s_tru (ha : PE X a (tE X.K rx c W ma)) (he : ∀ whole, isTrue a X.env whole = (do let v ← whole; standAt a.pos; holding [v] (truthy v)) := by intro _; rfl) : PT X a (tT X.K rx c W ma) := pt_val ha he
theorem s_ife (ht : PT X d (tT X.K rx c W md)) (ha : PE X a (tE X.K rx c W ma)) (hb : PE X b (tE X.K rx c W mb)) : PE X (.IfExp d a b pos) (tE X.K rx c W (.ife md ma mb)) := PE.weak (pe_ifExp ht ha hb) fun σ H Q h => by
  obtain ⟨α, Z, F, P, X', I, w⟩ := tE.el h
  refine I.val w fun v α1 H1 Z1 F1 x Fx w1 I1 s1 g1 r1 => ?_
  obtain ⟨r, rfl, w2⟩ := onB.el w1
  refine ⟨r, ra_bl r1, ?_⟩
  cases r with
  | true => exact tE.of I1 w2
  | false => exact tE.of I1 w2
theorem s_neg (ha : PE X a (tO X.K rx c W ma)) (h1 : okO ma = true := by rfl) : PE X (.UnaryOp .USub a pos) (tE X.K rx c W (.neg ma)) := PE.weak (pe_un un_neg ha) fun σ H Q h => by
  obtain ⟨α, Z, F, P, X', I, w⟩ := tE.el h
  refine I.opd h1 w fun v α1 H1 Z1 F1 x Fx w1 I1 s1 g1 o1 => ?_
  obtain ⟨u, G, r1, w2⟩ := o1.fetch I1.rs w1
  obtain ⟨i, rfl, w3⟩ := onI.el w2
  exact ⟨i, ra_int r1, I1.now w3 rfl⟩
end
end Am

set_option maxHeartbeats 4000000
namespace Am
open PySem PySem.Spec PyProof.Rows L2
variable [CN]
section
variable {K : PySem.W.Frag} {rx : RX} {c : Am.Ctx} {W : WX} {H H' H1 H2 : Hp} {Z Z' Z1 Z2 : ZP} {F F' F1 F2 Fx Fy Fr : List Addr} {α α1 α2 : Sl} {σ : L2.St} {P : VP} {X' : XP} {Q : VK}
theorem RL.tds : ∀ {vs : List AV} {xs : List V} {Fx : List Addr} {ds : List D}, RL K H Z vs xs Fx → toDs vs = some ds → RDs K H (fun a => Z a ∨ a ∈ Fx) ds xs
  | [], _, _, _, ⟨e, _⟩, h => by cases h; exact e
  | v :: r, _, _, ds, ⟨x, q, F1, F2, e, ef, h1, h2⟩, h => by
    subst ef
    have h : (match toD v, toDs r with | some d, some q => some (d :: q) | _, _ => none) = some ds := h
    cases ed : toD v with
    | none => rw [ed] at h; cases h
    | some d =>
      cases er : toDs r with
      | none => rw [ed, er] at h; cases h
      | some q' =>
        rw [ed, er] at h
        cases h
        exact ⟨x, q, e, RD.keep (.z fun a z => z.imp id fun z => List.mem_append_left _ z) d (h1.toD ed), RDs.keep (.z fun a z => z.imp id fun z => List.mem_append_right _ z) q' (h2.tds er)⟩
theorem In.vals (h : In K rx W σ H Z F α P X' Q) {es : MEs} {k : List AV → Sl → Prop} {R : List V → Hp → Prop} (w : wpEs c es α k X')
    (cont : ∀ vs α1 H1 Z1 F1 xs Fx, k vs α1 → In K rx W σ H1 Z1 F1 α1 P X' Q → Step H Z F H1 Z1 (F1 ++ Fx) → G3 H1 Z1 (F1 ++ Fx) → RL K H1 Z1 vs xs Fx → R xs H1) : tEs K rx c W es σ H R :=
  ⟨α, Z, F, k, X', h.rs, h.g, w, fun vs α1 hk H1 Z1 F1 xs Fx s1 g1 rs1 r1 => cont vs α1 H1 Z1 F1 xs Fx hk (h.next s1 g1 rs1) s1 g1 r1, h.hX⟩
theorem In.opds (h : In K rx W σ H Z F α P X' Q) {es : MEs} {k : List AV → Sl → Prop} {R : List V → Hp → Prop} (w : wpEl c es α k X')
    (cont : ∀ vs α1 H1 Z1 F1 xs Fx, k vs α1 → In K rx W σ H1 Z1 F1 α1 P X' Q → Step H Z F H1 Z1 (F1 ++ Fx) → G3 H1 Z1 (F1 ++ Fx) → OpdL K H1 Z1 σ es vs xs Fx → R xs H1) : tEl K rx c W es σ H R :=
  ⟨α, Z, F, k, X', h.rs, h.g, w, fun vs α1 hk H1 Z1 F1 xs Fx s1 g1 rs1 r1 => cont vs α1 H1 Z1 F1 xs Fx hk (h.next s1 g1 rs1) s1 g1 r1, h.hX⟩
/-- what is held becomes data -/
theorem In.frz (h : In K rx W σ H Z F α P X' Q) (s : Step H Z F H1 Z1 (F1 ++ Fx)) (g : G3 H1 Z1 (F1 ++ Fx)) (rs : RS K H1 Z1 α1 σ F1) : In K rx W σ H1 (fun a => Z1 a ∨ a ∈ Fx) F1 α1 P X' Q := by
  have s2 : Step H Z F H1 (fun a => Z1 a ∨ a ∈ Fx) (F1 ++ []) := by
    rw [List.append_nil]
    exact s.trans .frz
  have g2 : G3 H1 (fun a => Z1 a ∨ a ∈ Fx) (F1 ++ []) := by
    rw [List.append_nil]
    exact g.frz
  exact h.next s2 g2 (rs.keepZ fun _ z => .inl z)
end
section
variable {X : Cx} {rx : RX} {c : Am.Ctx} {W : WX} {a b d e : Expr} {rest es : List Expr} {pos : Pos} {ma mb md : ME} {ms : MEs}
theorem sa_nil : PA X [] (tEs X.K rx c W .nil) := PA.weak pa_nil fun _ _ _ h => tEs_nil h
theorem sa_cons (ha : PE X e (tE X.K rx c W ma)) (hr : PA X es (tEs X.K rx c W ms)) (hs : starEach (e :: es) X.env = (false, eval e X.env) :: starEach es X.env := by rfl) : PA X (e :: es) (tEs X.K rx c W (.cons ma ms)) := PA.weak (pa_cons ha hr hs) fun _ _ _ h => tEs_cons h
theorem sl_nil : PA X [] (tEl X.K rx c W .nil) := PA.weak pa_nil fun _ _ _ h => tEl_nil h
theorem sl_cons (ha : PE X e (tO X.K rx c W ma)) (hr : PA X es (tEl X.K rx c W ms)) (hs : starEach (e :: es) X.env = (false, eval e X.env) :: starEach es X.env := by rfl) (h1 : okO ma = true := by rfl) : PA X (e :: es) (tEl X.K rx c W (.cons ma ms)) := PA.weak (pa_cons ha hr hs) fun _ _ _ h => tEl_cons h1 h
theorem pe_tup2 {x1} {t : TA} (h : PA X es t) : PE X (.Tuple es x1 pos) (fun σ H Q => t σ H fun xs H1 => xs.length ≤ sizeLine ∧ QT Q H1 xs) := by
  refine ⟨fun pins s σ H Q I hq => ?_⟩
  refine wpAny_Tuple_spliced (thn (h.run pos pins s σ H _ I hq) fun us s1 ⟨xs, H1, I1, r, z, q⟩ => ⟨by rw [← r.length]; exact z, ?_⟩)
  have hf : H1 s1.heap.objs.size = none := I1.hok.fresh (Nat.le_refl _)
  exact ⟨.ref s1.heap.objs.size, _, Inv.tnew I1 r z, rfl, q _ _ hf rfl rfl⟩
theorem s_tup {x1} (h : PA X es (tEs X.K rx c W ms)) : PE X (.Tuple es x1 pos) (tE X.K rx c W (.tup ms)) := PE.weak (pe_tup2 h) fun σ H Q h => by
  obtain ⟨α, Z, F, P, X', I, w⟩ := tE.el h
  refine I.vals w fun vs α1 H1 Z1 F1 xs Fx w1 I1 s1 g1 r1 => ?_
  obtain ⟨ds, ed, hz, w2⟩ := onO.el w1
  have r2 := r1.tds ed
  have I2 := I.frz s1 g1 I1.rs
  exact ⟨by rw [← r2.len, ← big_eq]; exact hz, fun p ob hp hd hc => I2.res.tup I2.g.zt w2 r2 hp hd hc⟩
theorem s_lst (h : PA X es (tEs X.K rx c W ms)) : PE X (.List es pos) (tE X.K rx c W (.lst ms)) := PE.weak (pe_lst h) fun σ H Q h => by
  obtain ⟨α, Z, F, P, X', I, w⟩ := tE.el h
  refine I.vals w fun vs α1 H1 Z1 F1 xs Fx w1 I1 s1 g1 r1 => ?_
  obtain ⟨ds, ed, hz, w2⟩ := onO.el w1
  have r2 := r1.tds ed
  have I2 := I.frz s1 g1 I1.rs
  exact ⟨by rw [← r2.len, ← big_eq]; exact hz, fun p hp => I2.res.lst I2.g.zt w2 r2 hp⟩
def tMO (K : PySem.W.Frag) (rx : RX) (c : Am.Ctx) (W : WX) (m : MO) : TO := match m with
  | .none => tNoPart
  | .some e => tPart (tE K rx c W e)
theorem s_no : PO X none (tMO X.K rx c W .none) := po_none
theorem s_so {e : Expr} (h : PE X e (tE X.K rx c W ma)) : PO X (some e) (tMO X.K rx c W (.some ma)) := po_some h
theorem In.part {K : PySem.W.Frag} {H : Hp} {Z : ZP} {F : List Addr} {α : Sl} {σ : L2.St} {P : VP} {X' : XP} {Q : VK} (h : In K rx W σ H Z F α P X' Q) {m : MO} {k : Option Int → Sl → Prop} {R : Option Int → Hp → Prop} (w : wpO c m α k X')
    (cont : ∀ o α1 H1 Z1 F1, k o α1 → In K rx W σ H1 Z1 F1 α1 P X' Q → Step H Z F H1 Z1 F1 → R o H1) : tMO K rx c W m σ H R := by
  cases m with
  | none => exact cont none α H Z F w h .refl
  | some e =>
    refine h.val w fun v α1 H1 Z1 F1 x Fx w1 I1 s1 g1 r1 => ?_
    obtain ⟨i, rfl, w2⟩ := onI.el w1
    obtain ⟨e1, e2⟩ := r1
    subst e2
    rw [List.append_nil] at s1
    exact ⟨i, e1, cont (some i) α1 H1 Z1 F1 w2 I1 s1⟩
theorem s_slc {lo hi : Option Expr} {ml mh : MO} {p2} (ha : PE X a (tO X.K rx c W ma)) (hl : PO X lo (tMO X.K rx c W ml)) (hh : PO X hi (tMO X.K rx c W mh)) (h1 : okO ma = true := by rfl) :
    PE X (.Subscript a (.Slice lo hi none p2) pos) (tE X.K rx c W (.slc ma ml mh)) := PE.weak (pe_slice slc_ok ha hl hh) fun σ H Q h => by
  obtain ⟨α, Z, F, P, X', I, w⟩ := tE.el h
  refine I.opd h1 w fun v α1 H1 Z1 F1 x Fx w1 I1 s1 g1 o1 => ?_
  refine I1.part w1 fun l α2 H2 Z2 F2 w2 I2 s2 => ?_
  have o2 := o1.frame g1 s2
  have g2 := G3.beside g1 s2 I2.g
  refine I2.part w2 fun u α3 H3 Z3 F3 w3 I3 s3 => ?_
  have o3 := o2.frame g2 s3
  obtain ⟨v', Fv, r, w4⟩ := o3.fetch I3.rs w3
  exact ⟨Z3, v', Fv, fun v => P v α3, I3.g.zt, r, w4, I3.res⟩
def rBi (K : PySem.W.Frag) (c : Am.Ctx) (b : Bi) : List V → Hp → VK → Prop := fun xs H Q => ∃ Z us k, Zt H Z ∧ RLr K H Z us xs ∧ biQ c b us k ∧ ResP K H Z k Q
theorem bi_run {b : Bi} {σ : L2.St} {H : Hp} {Q : VK} (h : tE X.K rx c W (.bi b ms) σ H Q) : tCB (rBi X.K c b) (tEl X.K rx c W ms) σ H Q := by
  obtain ⟨α, Z, F, P, X', I, w⟩ := tE.el h
  refine I.opds w fun vs α1 H1 Z1 F1 xs Fx w1 I1 s1 g1 o1 => ?_
  obtain ⟨us, r, w2⟩ := o1.read I1.rs w1
  exact ⟨Z1, us, fun v => P v α1, I1.g.zt, r, w2, I1.res⟩
theorem s_bi {b : Bi} {id : String} {x : Str} {p} (hc : CallR X (.builtin id) (rBi X.K c b)) (hm : X.mg x = none) (ha : PA X (e :: es) (tEl X.K rx c W ms)) (hg : Gl X x := by rfl) (hv : bootBuiltins x = some (.builtin id) := by rfl) (hn : x ≠ "__name__" := by decide) (hdb : (x == ("__debug__" : Str)) = false := by decide)
    (he : starEach (e :: es) X.env = (false, eval e X.env) :: starEach es X.env := by rfl) (hpl : (backTo pos (starEach es X.env)).any (·.1) = false := by rfl) :
    PE X (.Call (.Name x p) (e :: es) [] pos) (tE X.K rx c W (.bi b ms)) := PE.weak (pe_callB hc hg hm hv ha hn hdb he hpl) fun σ H Q h => bi_run h
theorem s_biT {b : Bi} {id : String} {x : Str} {p} (hc : CallR X (.type id) (rBi X.K c b)) (hm : X.mg x = none) (ha : PA X (e :: es) (tEl X.K rx c W ms)) (hg : Gl X x := by rfl) (hv : bootBuiltins x = some (.type id) := by rfl) (hn : x ≠ "__name__" := by decide) (hdb : (x == ("__debug__" : Str)) = false := by decide)
    (he : starEach (e :: es) X.env = (false, eval e X.env) :: starEach es X.env := by rfl) (hpl : (backTo pos (starEach es X.env)).any (·.1) = false := by rfl) :
    PE X (.Call (.Name x p) (e :: es) [] pos) (tE X.K rx c W (.bi b ms)) := PE.weak (pe_callTy hc hg hm hv ha hn hdb he hpl) fun σ H Q h => bi_run h
end
/-- what a def promises -/
def spA (K : PySem.W.Frag) (rx : RX) (call : List AV → FP → FX → Prop) : Sp := fun xs H Q E => ∃ Z vs F, ∃ PF : FP, ∃ XF : FX, RL K H Z vs xs F ∧ G3 H Z F ∧ call vs PF XF ∧
  (∀ v ws, PF v ws → ∀ H' Z' x Fo Fr, Step H Z F H' Z' (Fo ++ Fr) → G3 H' Z' (Fo ++ Fr) → RAs K H' Z' ws (xs.map some) Fo → RA K H' Z' v x Fr → Q x H') ∧
  ∀ e ds ws, XF e ds ws → ∀ H' Z' Fo cls d, Step H Z F H' Z' Fo → G3 H' Z' Fo → RAs K H' Z' ws (xs.map some) Fo → rx e ds cls d H' Z' → E cls d H'
section
variable {X : Cx} {rx : RX} {c : Am.Ctx} {W : WX} {a b d e : Expr} {rest es : List Expr} {pos : Pos} {ma mb md : ME} {ms : MEs}
theorem call_run {f : Nat} {σ : L2.St} {H : Hp} {Q : VK} (h : tE X.K rx c W (.call f ms) σ H Q) : tCallS (spA X.K rx (c.call f)) (WE W) (tEl X.K rx c W ms) σ H Q := by
  obtain ⟨α, Z, F, P, X', I, w⟩ := tE.el h
  refine I.opds w fun vs α1 H1 Z1 F1 xs Fx w1 I1 s1 g1 o1 => ?_
  obtain ⟨as, Fs, α2, F2, Z2, rl, rs2, s2, g2, w2⟩ := o1.take I1.rs g1 w1
  have gs : G3 H1 Z2 (Fs ++ F2) := g2.perm List.perm_append_comm
  have ss : Step H Z F H1 Z2 (Fs ++ F2) := (s1.trans s2).permR List.perm_append_comm
  -- what the caller holds behind the call
  have back : ∀ {H' : Hp} {Z' : ZP} {ws : List (Option AV)} {Fo Fr : List Addr}, Step H1 Z2 Fs H' Z' (Fo ++ Fr) → G3 H' Z' (Fo ++ Fr) → RAs X.K H' Z' ws (xs.map some) Fo →
      ∃ F3, RS X.K H' Z' (backA ms vs as ws α2) σ F3 ∧ Step H Z F H' Z' (F3 ++ Fr) ∧ G3 H' Z' (F3 ++ Fr) := fun {H' Z' ws Fo Fr} s3 g3 ro => by
    have s4 := s3.beside gs
    have g4 := G3.beside gs s3 g3
    obtain ⟨F3, rest, rs3, p3⟩ := OpdL.back (((s2.keep g1).trans ((s3.beside gs).keep gs))) (ys := []) o1 (rs2.frame gs.left s3 gs.dis) (by rw [List.append_nil]; exact ro) rl.len
    have pp : ((Fo ++ Fr) ++ F2).Perm ((F3 ++ Fr) ++ rest) := by
      refine (List.Perm.append_right F2 List.perm_append_comm).trans ?_
      rw [List.append_assoc]
      refine (List.Perm.append_left Fr (List.perm_append_comm.trans p3)).trans ?_
      rw [← List.append_assoc]
      exact List.Perm.append_right rest List.perm_append_comm
    exact ⟨F3, rs3, ((ss.trans s4).permR pp).lessR fun _ h => List.mem_append_left _ h, (g4.perm pp).left⟩
  refine ⟨Z2, as, Fs, _, _, rl, gs.left, w2, fun v ws hp H' Z' x Fo Fr s3 g3 ro ra => ?_, fun e ds ws hx H' Z' Fo cls d s3 g3 ro hr => ?_⟩
  · obtain ⟨F3, a1, a2, a3⟩ := back s3 g3 ro
    have hp : P v (backA ms vs as ws α2) := by
      have hp : frc (backA ms vs as ws α2) (P v) := hp
      rwa [frc_eq] at hp
    exact I.fin hp a2 a3 a1 ra
  · obtain ⟨F3, a1, a2, a3⟩ := back (Fr := []) (by rw [List.append_nil]; exact s3) (by rw [List.append_nil]; exact g3) ro
    rw [List.append_nil] at a2 a3
    exact I.hX e ds _ hx H' Z' F3 cls d a2 a3 a1 hr
/-- a def, by its name in the module -/
structure Def (P : Program) (w : World) (K : PySem.W.Frag) (mg : Str → Option Value) (base : Heap) (rx : RX) (k : Nat) (call : List AV → FP → FX → Prop) (x : Str) : Prop where
  ex : ∃ f fd ps, FnOk P w K mg base (L2.CX P w) k f fd ps (spA K rx call) ∧ mg x = some (.ref f) ∧ PySem.W.keepIn K (.ref f) = true ∧ Binds K fd ps []
theorem s_call {f k : Nat} {x : Str} {p} (D : Def X.prog X.w X.K X.mg X.base rx k (c.call f) x) (hr : Room k X.A) (tk : Takes X W) (ha : PA X (e :: es) (tEl X.K rx c W ms)) (hg : Gl X x := by rfl) (hdb : (x == ("__debug__" : Str)) = false := by decide)
    (he : starEach (e :: es) X.env = (false, eval e X.env) :: starEach es X.env := by rfl) (hpl : (backTo pos (starEach es X.env)).any (·.1) = false := by rfl) :
    PE X (.Call (.Name x p) (e :: es) [] pos) (tE X.K rx c W (.call f ms)) := by
  obtain ⟨f, fd, ps, F, hm, hk, hb⟩ := D.ex
  exact PE.weak (pe_callS F hr hg hm hk hb (fun σ => passAt tk σ) ha hdb he hpl) fun σ H Q h => call_run h
theorem s_call0 {f k : Nat} {x : Str} {p} (D : Def X.prog X.w X.K X.mg X.base rx k (c.call f) x) (hr : Room k X.A) (tk : Takes X W) (hg : Gl X x := by rfl) (hdb : (x == ("__debug__" : Str)) = false := by decide) :
    PE X (.Call (.Name x p) [] [] pos) (tE X.K rx c W (.call f .nil)) := by
  obtain ⟨f, fd, ps, F, hm, hk, hb⟩ := D.ex
  refine ⟨fun pins s σ H Q I h => ?_⟩
  have h1 : spA X.K rx _ [] H Q (WE W σ) := tEl_nil (call_run h)
  refine wpAny_Call_Name_kw (ld_glob I hg hm ?_ hdb)
  exact PySem.W.callWith_K0 I.kIn hk (run_fnS (us := []) F hr hb (passAt tk σ) I .nil h1)
end
end Am

set_option maxHeartbeats 4000000
namespace Am
open PySem PySem.Spec PyProof.Rows L2
variable [CN]
/-- slots that the def never stores to -/
def Same (sg : List Bool) (σ σ' : L2.St) : Prop := σ'.length = σ.length ∧ ∀ i, getL sg i ≠ some true → σ'[i]? = σ[i]?
theorem Same.refl {sg : List Bool} {σ : L2.St} : Same sg σ σ := ⟨rfl, fun _ _ => rfl⟩
theorem Same.trans {sg : List Bool} {a b d : L2.St} (h : Same sg a b) (k : Same sg b d) : Same sg a d := ⟨k.1.trans h.1, fun i hi => (k.2 i hi).trans (h.2 i hi)⟩
theorem Same.set {sg : List Bool} {σ : L2.St} {i : Nat} {x : Option V} (h : getL sg i = some true) : Same sg σ (σ.set i x) := ⟨List.length_set, fun j hj => by
  rw [List.getElem?_set_ne]
  intro e
  subst e
  exact hj h⟩
theorem getL_lt {α : Type} {l : List α} {i : Nat} {x : α} (h : getL l i = some x) : i < l.length := by
  rw [getL_eq] at h
  exact (List.getElem?_eq_some_iff.mp h).1
section
variable (K : PySem.W.Frag) (rx : RX) (sg : List Bool) (σ : L2.St) (H : Hp) (Z : ZP) (F : List Addr)
def NX (Q : L2.St → Hp → Prop) : Sl → Prop := fun α' => ∀ H' Z' F' σ', Step H Z F H' Z' F' → G3 H' Z' F' → Same sg σ σ' → RS K H' Z' α' σ' F' → Q σ' H'
def RT (Q : VK) : VP := fun v α' => ∀ H' Z' F' Fr x σ', Step H Z F H' Z' (F' ++ Fr) → G3 H' Z' (F' ++ Fr) → Same sg σ σ' → RS K H' Z' α' σ' F' → RA K H' Z' v x Fr → Q x H'
def XS (W : WX) : XP := fun e ds α' => ∀ H' Z' F' σ' cls d, Step H Z F H' Z' F' → G3 H' Z' F' → Same sg σ σ' → RS K H' Z' α' σ' F' → rx e ds cls d H' Z' → W cls d σ' H'
end
structure InS (K : PySem.W.Frag) (rx : RX) (W : WX) (sg : List Bool) (σ : L2.St) (H : Hp) (Z : ZP) (F : List Addr) (α : Sl) (N : Am.Ends) (X' : XP) (D : L2.Ends) : Prop where
  rs : RS K H Z α σ F
  g : G3 H Z F
  hN : ∀ α', N.nx α' → NX K sg σ H Z F D.nx α'
  hR : ∀ v α', N.rt v α' → RT K sg σ H Z F D.rt v α'
  hX : ∀ e ds α', X' e ds α' → XS K rx sg σ H Z F W e ds α'
def tS (K : PySem.W.Frag) (rx : RX) (c : Am.Ctx) (W : WX) (sg : List Bool) (m : MS) : TS := fun D σ H => ∃ α Z F N X', InS K rx W sg σ H Z F α N X' D ∧ wpS c m α N X'
def tSs (K : PySem.W.Frag) (rx : RX) (c : Am.Ctx) (W : WX) (sg : List Bool) (m : MSs) : TS := fun D σ H => ∃ α Z F N X', InS K rx W sg σ H Z F α N X' D ∧ wpSs c m α N X'
section
variable {K : PySem.W.Frag} {rx : RX} {c : Am.Ctx} {W : WX} {sg : List Bool} {H H' H1 H2 : Hp} {Z Z' Z1 Z2 : ZP} {F F' F1 F2 Fx Fy Fr : List Addr} {α α1 α2 : Sl} {σ σ1 : L2.St} {N : Am.Ends} {X' : XP} {D : L2.Ends} {Q : VK}
theorem InS.next (h : InS K rx W sg σ H Z F α N X' D) (s : Step H Z F H1 Z1 F1) (g : G3 H1 Z1 F1) (sm : Same sg σ σ1) (rs : RS K H1 Z1 α1 σ1 F1) : InS K rx W sg σ1 H1 Z1 F1 α1 N X' D :=
  ⟨rs, g, fun α' p H' Z' F' σ' t g' q r => h.hN α' p H' Z' F' σ' (s.trans t) g' (sm.trans q) r, fun v α' p H' Z' F' Fr x σ' t g' q r ra => h.hR v α' p H' Z' F' Fr x σ' (s.trans t) g' (sm.trans q) r ra,
    fun e ds α' p H' Z' F' σ' cls d t g' q r ra => h.hX e ds α' p H' Z' F' σ' cls d (s.trans t) g' (sm.trans q) r ra⟩
/-- .. the held parts fall away -/
theorem InS.next' (h : InS K rx W sg σ H Z F α N X' D) (s : Step H Z F H1 Z1 (F1 ++ Fx)) (g : G3 H1 Z1 (F1 ++ Fx)) (sm : Same sg σ σ1) (rs : RS K H1 Z1 α1 σ1 F1) : InS K rx W sg σ1 H1 Z1 F1 α1 N X' D :=
  h.next (s.lessR fun _ h => List.mem_append_left _ h) g.left sm rs
/-- other ends -/
theorem InS.ends (h : InS K rx W sg σ H Z F α N X' D) {N' : Am.Ends} {D' : L2.Ends} (hn : ∀ α', N'.nx α' → NX K sg σ H Z F D'.nx α') (hr : ∀ v α', N'.rt v α' → RT K sg σ H Z F D'.rt v α') : InS K rx W sg σ H Z F α N' X' D' := ⟨h.rs, h.g, hn, hr, h.hX⟩
theorem InS.nxt (h : InS K rx W sg σ H Z F α N X' D) (p : N.nx α) : D.nx σ H := h.hN α p H Z F σ .refl h.g .refl h.rs
theorem InS.px (h : InS K rx W sg σ H Z F α N X' D) : ∀ e ds α', X' e ds α' → PX K rx σ H Z F W e ds α' := fun e ds α' p H' Z' F' cls d s g r q => h.hX e ds α' p H' Z' F' σ cls d s g .refl r q
/-- a value, then the rest -/
theorem InS.val (h : InS K rx W sg σ H Z F α N X' D) {a : ME} {k : VP} {R : VK} (w : wpE c a α k X')
    (cont : ∀ v α1 H1 Z1 F1 x Fx, k v α1 → InS K rx W sg σ H1 Z1 F1 α1 N X' D → Step H Z F H1 Z1 (F1 ++ Fx) → G3 H1 Z1 (F1 ++ Fx) → RA K H1 Z1 v x Fx → R x H1) : tE K rx c W a σ H R :=
  ⟨α, Z, F, k, X', h.rs, h.g, w, fun v α1 hk H1 Z1 F1 x Fx s1 g1 rs1 r1 => cont v α1 H1 Z1 F1 x Fx hk (h.next' s1 g1 .refl rs1) s1 g1 r1, h.px⟩
theorem InS.vals (h : InS K rx W sg σ H Z F α N X' D) {es : MEs} {k : List AV → Sl → Prop} {R : List V → Hp → Prop} (w : wpEs c es α k X')
    (cont : ∀ vs α1 H1 Z1 F1 xs Fx, k vs α1 → InS K rx W sg σ H1 Z1 F1 α1 N X' D → Step H Z F H1 Z1 (F1 ++ Fx) → G3 H1 Z1 (F1 ++ Fx) → RL K H1 Z1 vs xs Fx → R xs H1) : tEs K rx c W es σ H R :=
  ⟨α, Z, F, k, X', h.rs, h.g, w, fun vs α1 hk H1 Z1 F1 xs Fx s1 g1 rs1 r1 => cont vs α1 H1 Z1 F1 xs Fx hk (h.next' s1 g1 .refl rs1) s1 g1 r1, h.px⟩
theorem InS.frz (h : InS K rx W sg σ H Z F α N X' D) (s : Step H Z F H1 Z1 (F1 ++ Fx)) (g : G3 H1 Z1 (F1 ++ Fx)) (rs : RS K H1 Z1 α1 σ F1) : InS K rx W sg σ H1 (fun a => Z1 a ∨ a ∈ Fx) F1 α1 N X' D :=
  h.next (s.trans .frz) g.frz .refl (rs.keepZ fun _ z => .inl z)
/-- a store to a name -/
theorem setS_out : ∀ {α : Sl} {i : Nat} {w : Option AV}, ¬ i < α.length → setS α i w = α
  | [], _, _, _ => rfl
  | _ :: _, 0, _, h => absurd (Nat.succ_pos _) h
  | x :: r, i + 1, w, h => congrArg (x :: ·) (setS_out (α := r) (i := i) fun z => h (Nat.succ_lt_succ z))
/-- a slot gets a value -/
theorem RS.putV {i : Nat} {v : AV} {x : V} (rs : RS K H Z α σ F) (r : RA K H Z v x Fx) : ∃ F2 rest, RS K H Z (setS α i (some v)) (σ.set i (some x)) F2 ∧ (F ++ Fx).Perm (F2 ++ rest) := by
  by_cases hlt : i < α.length
  · obtain ⟨Fi, Fr, p1, pu, _⟩ := rs.put hlt
    exact ⟨Fx ++ Fr, Fi, pu v x Fx r, (List.Perm.append_right Fx p1).trans (by
      rw [List.append_assoc]
      exact List.perm_append_comm.trans (List.Perm.append_right Fi List.perm_append_comm))⟩
  · have e1 : setS α i (some v) = α := setS_out hlt
    have e2 : σ.set i (some x) = σ := List.set_eq_of_length_le (by rw [← rs.len]; omega)
    rw [e1, e2]
    exact ⟨F, Fx, rs, List.Perm.refl _⟩
theorem RS.putN {i : Nat} {y : Option V} (rs : RS K H Z α σ F) : ∃ F2 rest, RS K H Z (setS α i none) (σ.set i y) F2 ∧ F.Perm (F2 ++ rest) := by
  by_cases hlt : i < α.length
  · obtain ⟨Fi, Fr, p1, _, pu⟩ := rs.put hlt
    exact ⟨Fr, Fi, pu y, p1.trans List.perm_append_comm⟩
  · have e1 : setS α i none = α := setS_out hlt
    have e2 : σ.set i y = σ := List.set_eq_of_length_le (by rw [← rs.len]; omega)
    rw [e1, e2]
    exact ⟨F, [], rs, by rw [List.append_nil]⟩
/-- a store to a name -/
theorem InS.put (h : InS K rx W sg σ H Z F α N X' D) {i : Nat} {v : AV} {x : V} (s : Step H Z F H1 Z1 (F1 ++ Fx)) (g : G3 H1 Z1 (F1 ++ Fx)) (rs : RS K H1 Z1 α1 σ F1) (r : RA K H1 Z1 v x Fx) (hi : getL sg i = some true) :
    ∃ F2, InS K rx W sg (σ.set i (some x)) H1 Z1 F2 (setS α1 i (some v)) N X' D := by
  obtain ⟨F2, rest, rs2, pp⟩ := rs.putV (i := i) r
  exact ⟨F2, h.next' (s.permR pp) (g.perm pp) (.set hi) rs2⟩
end
section
variable {X : Cx} {rx : RX} {c : Am.Ctx} {W : WX} {sg : List Bool} {a b d e : Expr} {st : Stmt} {rest sa sb : List Stmt} {pos : Pos} {m ma mb md : ME} {s : MS} {ss su : MSs}
theorem PS.weak {t t' : TS} (h : PS X st t) (w : ∀ D σ H, t' D σ H → t D σ H) : PS X st t' := ⟨fun pins s σ H D I q => h.run pins s σ H D I (w _ _ _ q)⟩
theorem PSs.weak {t t' : TS} (h : PSs X rest t) (w : ∀ D σ H, t' D σ H → t D σ H) : PSs X rest t' := ⟨fun pins s σ H D I q => h.run pins s σ H D I (w _ _ _ q)⟩
theorem ss_nil : PSs X [] (tSs X.K rx c W sg .nil) := PSs.weak pss_nil fun D σ H ⟨α, Z, F, N, X', I, w⟩ => I.nxt w
theorem ss_cons (h1 : PS X st (tS X.K rx c W sg s)) (h2 : PSs X rest (tSs X.K rx c W sg ss)) : PSs X (st :: rest) (tSs X.K rx c W sg (.cons s ss)) := PSs.weak (pss_cons h1 h2) fun D σ H ⟨α, Z, F, N, X', I, w⟩ =>
  ⟨α, Z, F, ⟨fun α1 => frc α1 fun α1 => wpSs c ss α1 N X', N.rt⟩, X', I.ends (fun α' w' H' Z' F' σ' s g sm rs => ⟨α', Z', F', N, X', I.next s g sm rs, by
    have w' : frc α' fun α1 => wpSs c ss α1 N X' := w'
    rwa [frc_eq] at w'⟩) I.hR, w⟩
theorem s_pass : PS X (.Pass pos) (tS X.K rx c W sg .pass) := PS.weak ps_pass fun D σ H ⟨α, Z, F, N, X', I, w⟩ => I.nxt w
theorem s_ret (h : PE X e (tE X.K rx c W m)) (hm : (match m with | .pl (.v _) => false | _ => true) = true := by rfl) : PS X (.Return (some e) pos) (tS X.K rx c W sg (.ret m)) := PS.weak (ps_ret h) fun D σ H ⟨α, Z, F, N, X', I, w⟩ => by
  have w : wpE c m α N.rt X' := by
    cases m with
    | pl p => cases p with
      | v i => cases hm
      | f p j => exact w
    | _ => exact w
  exact I.val w fun v α1 H1 Z1 F1 x Fx w1 I1 s1 g1 r1 => I.hR v α1 w1 H1 Z1 F1 Fx x σ s1 g1 .refl I1.rs r1
theorem s_retV {x : Str} {p} (i : Nat) (hN : X.N[i]? = some x := by rfl) (hv : Vis X.env.scope x := by first | exact .inl rfl | exact .inr (.inl rfl) | exact .inr (.inr rfl)) (hd : (x == ("__debug__" : Str)) = false := by decide) (hcd : (x == ("__classdict__" : Str)) = false := by decide) : PS X (.Return (some (.Name x p)) pos) (tS X.K rx c W sg (.ret (.pl (.v i)))) := PS.weak (ps_ret (pe_var hN hv hd hcd)) fun D σ H ⟨α, Z, F, N, X', I, w⟩ => by
  have w : onO (getS α i) fun v => match v with
      | .p d => N.rt (.p d) α
      | .ld _ _ => False
      | .ll _ _ => False
      | v => N.rt v (setS α i none) := w
  obtain ⟨v, ev, w⟩ := onO.el w
  obtain ⟨y, Fi, Fr, h1, h2, p1, put, gone⟩ := I.rs.get ev
  refine ⟨y, h1, ?_⟩
  have gen : N.rt v (setS α i none) → D.rt y H := fun w => I.hR v _ w H Z Fr Fi y σ (Step.refl.permR (p1.trans List.perm_append_comm)) (I.g.perm (p1.trans List.perm_append_comm)) .refl gone h2
  cases v with
  | p d => exact I.hR (.p d) α w H Z F [] y σ step0 (g30 I.g) .refl I.rs ⟨h2.1, rfl⟩
  | ld _ _ => exact w.elim
  | ll _ _ => exact w.elim
  | _ => exact gen w
theorem s_retn : PS X (.Return none pos) (tS X.K rx c W sg .retn) := PS.weak ps_retN fun D σ H ⟨α, Z, F, N, X', I, w⟩ => I.hR (.p .non) α w H Z F [] .non σ step0 (g30 I.g) .refl I.rs ⟨rfl, rfl⟩
theorem s_if (ht : PT X d (tT X.K rx c W m)) (ha : PSs X sa (tSs X.K rx c W sg ss)) (hb : PSs X sb (tSs X.K rx c W sg su)) : PS X (.If d sa sb pos) (tS X.K rx c W sg (.iff m ss su)) := PS.weak (ps_if ht ha hb) fun D σ H ⟨α, Z, F, N, X', I, w⟩ => by
  refine I.val w fun v α1 H1 Z1 F1 x Fx w1 I1 s1 g1 r1 => ?_
  obtain ⟨r, rfl, w2⟩ := onB.el w1
  refine ⟨r, ra_bl r1, ?_⟩
  cases r with
  | true => exact ⟨α1, Z1, F1, N, X', I1, w2⟩
  | false => exact ⟨α1, Z1, F1, N, X', I1, w2⟩
theorem s_ex (h : PE X e (tE X.K rx c W m)) (hs : swapsWith e none pos.line X.env = pure false := by rfl) : PS X (.Expr e pos) (tS X.K rx c W sg (.ex m)) := PS.weak (ps_expr h hs) fun D σ H ⟨α, Z, F, N, X', I, w⟩ =>
  I.val w fun v α1 H1 Z1 F1 x Fx w1 I1 s1 g1 r1 => I1.nxt w1
theorem s_set {i : Nat} {x : Str} {p} (he : PE X e (tE X.K rx c W m)) (hN : X.N.Nodup) (hi : X.N[i]? = some x := by rfl) (hg : getL sg i = some true := by rfl) (hx : Loc X.env.scope x := by first | exact .inl rfl | exact .inr rfl) (hs : swapsWith e (some (.Name x p)) pos.line X.env = pure false := by rfl)
    (hf : X.fn x = true ∨ X.env.scope.names.lookup x = some .local := by first | exact .inl rfl | exact .inr rfl | assumption) : PS X (.Assign [.Name x p] e pos) (tS X.K rx c W sg (.asg (.pl (.v i)) m)) := PS.weak (ps_set hN hi hx he hs hf) fun D σ H ⟨α, Z, F, N, X', I, w⟩ => by
  refine I.val w fun v α1 H1 Z1 F1 x Fx w1 I1 s1 g1 r1 => ?_
  obtain ⟨F2, I2⟩ := I.put s1 g1 I1.rs r1 hg
  exact I2.nxt w1
end
end Am

set_option maxHeartbeats 4000000
namespace Am
open PySem PySem.Spec PyProof.Rows L2
variable [CN]
/-- an item as a target sees it -/
def RG (K : PySem.W.Frag) (H : Hp) (Z : ZP) (t : ME) (d : D) (x : V) : Prop := match t with
  | .tup _ => ∃ ds a vs, d = .tup ds ∧ x = .ref a ∧ SqT K H a vs ∧ RDs K H Z ds vs
  | .lst _ => ∃ ds a vs, d = .lst ds ∧ x = .ref a ∧ SqL K H a vs ∧ RDs K H Z ds vs
  | _ => RD K H Z d x
def tG (K : PySem.W.Frag) (sg : List Bool) (t : ME) : TG := fun v σ H Q => ∃ α Z F d k, RS K H Z α σ F ∧ G3 H Z F ∧ RG K H Z t d v ∧ wpG t d α k ∧
  ∀ α' σ' F', Step H Z F H Z F' → G3 H Z F' → Same sg σ σ' → RS K H Z α' σ' F' → k α' → Q σ' H
def tGs (K : PySem.W.Frag) (sg : List Bool) (ts : MEs) : TGs := fun vs σ H Q => ∃ α Z F ds k, RS K H Z α σ F ∧ G3 H Z F ∧ RDs K H Z ds vs ∧ wpGs ts ds α k ∧
  ∀ α' σ' F', Step H Z F H Z F' → G3 H Z F' → Same sg σ σ' → RS K H Z α' σ' F' → k α' → Q σ' H
section
variable {K : PySem.W.Frag} {H : Hp} {Z : ZP}
theorem RG.of {t : ME} {d : D} {x : V} {α : Sl} {k : Sl → Prop} (h : RD K H Z d x) (w : wpG t d α k) : RG K H Z t d x := by
  cases t with
  | tup ts =>
    cases d with
    | tup ds => obtain ⟨a, vs, e, q, r⟩ := h; exact ⟨ds, a, vs, rfl, e, q.sq, r⟩
    | _ => exact w.elim
  | lst ts =>
    cases d with
    | lst ds => obtain ⟨a, vs, e, q, r⟩ := h; exact ⟨ds, a, vs, rfl, e, q.sq, r⟩
    | _ => exact w.elim
  | _ => exact h
def MEs.len : MEs → Nat
  | .nil => 0
  | .cons _ r => r.len + 1
theorem wpGs_len : ∀ {ts : MEs} {ds : List D} {α : Sl} {k : Sl → Prop}, wpGs ts ds α k → (∀ t d α k, wpG t d α k → ∃ α', k α') → ds.length = ts.len
  | .nil, [], _, _, _, _ => rfl
  | .nil, _ :: _, _, _, w, _ => w.elim
  | .cons _ _, [], _, _, w, _ => w.elim
  | .cons t r, d :: ds, α, k, w, h => by
    have w : wpG t d α fun α1 => wpGs r ds α1 k := w
    obtain ⟨α', w'⟩ := h _ _ _ _ w
    show ds.length + 1 = r.len + 1
    rw [wpGs_len w' h]
mutual
theorem wpG_ex : ∀ (t : ME) (d : D) (α : Sl) (k : Sl → Prop), wpG t d α k → ∃ α', k α'
  | .pl (.v i), d, α, k, w => ⟨_, w⟩
  | .tup ts, .tup ds, α, k, w => wpGs_ex ts ds α k w
  | .lst ts, .lst ds, α, k, w => wpGs_ex ts ds α k w
theorem wpGs_ex : ∀ (ts : MEs) (ds : List D) (α : Sl) (k : Sl → Prop), wpGs ts ds α k → ∃ α', k α'
  | .nil, [], α, k, w => ⟨_, w⟩
  | .cons t r, d :: ds, α, k, w => by
    have w : wpG t d α fun α1 => wpGs r ds α1 k := w
    obtain ⟨α', w'⟩ := wpG_ex t d α _ w
    exact wpGs_ex r ds α' k w'
end
end
section
variable {X : Cx} {rx : RX} {c : Am.Ctx} {W : WX} {sg : List Bool} {a b d e tg iter : Expr} {st : Stmt} {rest sa sb : List Stmt} {es : List Expr} {pos : Pos} {m ma mb md t : ME} {ms ts : MEs} {s : MS} {ss su : MSs}
theorem PG.weak {t t' : TG} (h : PG X tg t) (w : ∀ v σ H Q, t' v σ H Q → t v σ H Q) : PG X tg t' := ⟨fun pins s σ H v u Q I r q => h.run pins s σ H v u Q I r (w _ _ _ _ q)⟩
theorem PGs.weak {t t' : TGs} (h : PGs X es t) (w : ∀ v σ H Q, t' v σ H Q → t v σ H Q) : PGs X es t' := ⟨fun pins s σ H v u Q I r q => h.run pins s σ H v u Q I r (w _ _ _ _ q)⟩
theorem RS.store {K : PySem.W.Frag} {H : Hp} {Z : ZP} {α : Sl} {σ : L2.St} {F : List Addr} {i : Nat} {d : D} {x : V} (rs : RS K H Z α σ F) (g : G3 H Z F) (r : RD K H Z d x) :
    ∃ F', Step H Z F H Z F' ∧ G3 H Z F' ∧ RS K H Z (setS α i (some (.p d))) (σ.set i (some x)) F' := by
  obtain ⟨F2, rest, rs2, pp⟩ := rs.putV (i := i) (show RA K H Z (.p d) x [] from ⟨r, rfl⟩)
  rw [List.append_nil] at pp
  exact ⟨F2, (Step.refl.permR pp).lessR fun _ h => List.mem_append_left _ h, (g.perm pp).left, rs2⟩
theorem sg_name {i : Nat} {x : Str} (hN : X.N.Nodup) (hi : X.N[i]? = some x := by rfl) (hg : getL sg i = some true := by rfl) (hx : Loc X.env.scope x := by first | exact .inl rfl | exact .inr rfl) (hf : X.fn x = true ∨ X.env.scope.names.lookup x = some .local := by first | exact .inl rfl | exact .inr rfl | assumption) :
    PG X (.Name x pos) (tG X.K sg (.pl (.v i))) := PG.weak (pg_name hN hi hx hf) fun v σ H Q ⟨α, Z, F, d, k, rs, g, r, w, cont⟩ => by
  obtain ⟨F', s1, g1, rs1⟩ := rs.store (i := i) g r
  exact cont _ _ F' s1 g1 (.set hg) rs1 w
theorem sgs_nil : PGs X [] (tGs X.K sg .nil) := PGs.weak pgs_nil fun vs σ H Q ⟨α, Z, F, ds, k, rs, g, r, w, cont⟩ => by
  cases ds with
  | nil => exact ⟨r, cont α σ F .refl g .refl rs w⟩
  | cons d ds => exact w.elim
theorem sgs_cons (h1 : PG X e (tG X.K sg t)) (h2 : PGs X es (tGs X.K sg ts)) (hs : (assignEach (e :: es) X.env).map (·.2) = assign e X.env :: (assignEach es X.env).map (·.2) := by rfl) : PGs X (e :: es) (tGs X.K sg (.cons t ts)) := PGs.weak (pgs_cons h1 h2 hs) fun vs σ H Q ⟨α, Z, F, ds, k, rs, g, r, w, cont⟩ => by
  cases ds with
  | nil => exact w.elim
  | cons d ds =>
    obtain ⟨x, q, rfl, r1, r2⟩ := r
    have w : wpG t d α fun α1 => wpGs ts ds α1 k := w
    refine ⟨x, q, rfl, α, Z, F, d, _, rs, g, RG.of r1 w, w, fun α1 σ1 F1 s1 g1 sm rs1 w1 => ?_⟩
    exact ⟨α1, Z, F1, ds, k, rs1, g1, r2, w1, fun α2 σ2 F2 s2 g2 sm2 rs2 w2 => cont α2 σ2 F2 (s1.trans s2) g2 (sm.trans sm2) rs2 w2⟩
theorem sg_tup {kk : Nat} (hc : X.calm = true) (h : PGs X es (tGs X.K sg ts)) (hn : (assignEach es X.env).length = ts.len := by rfl) (hst : (assignEach es X.env).findIdx? (·.1) = none := by rfl) : PG X (.Tuple es kk pos) (tG X.K sg (.tup ts)) :=
  PG.weak (pg_tup hc h hn hst) fun v σ H Q ⟨α, Z, F, d, k, rs, g, r, w, cont⟩ => by
  obtain ⟨ds, a, vs, rfl, rfl, q, r⟩ := r
  have w : wpGs ts ds α k := w
  exact ⟨a, vs, rfl, q, by rw [← r.len]; exact wpGs_len w wpG_ex, α, Z, F, ds, k, rs, g, r, w, cont⟩
theorem sg_lst {kk : Nat} (hc : X.calm = true) (h : PGs X es (tGs X.K sg ts)) (hn : (assignEach es X.env).length = ts.len := by rfl) (hst : (assignEach es X.env).findIdx? (·.1) = none := by rfl) : PG X (.Tuple es kk pos) (tG X.K sg (.lst ts)) :=
  PG.weak (pg_lst hc h hn hst) fun v σ H Q ⟨α, Z, F, d, k, rs, g, r, w, cont⟩ => by
  obtain ⟨ds, a, vs, rfl, rfl, q, r⟩ := r
  have w : wpGs ts ds α k := w
  exact ⟨a, vs, rfl, q, by rw [← r.len]; exact wpGs_len w wpG_ex, α, Z, F, ds, k, rs, g, r, w, cont⟩
/-- (a, b, ..) = a tuple -/
theorem s_unp (he : PE X e (tE X.K rx c W m)) (hg : PG X tg (tG X.K sg (.tup ts))) (hs : swapsWithSole [tg] e pos.line X.env = pure false := by rfl) (hw : swappedStores [tg] e X.env = pure none := by rfl)
    (h1 : (assignEach [tg] X.env).map (·.2) = [assign tg X.env] := by rfl) : PS X (.Assign [tg] e pos) (tS X.K rx c W sg (.asg (.tup ts) m)) := PS.weak (ps_asg he hg hs hw h1) fun D σ H ⟨α, Z, F, N, X', I, w⟩ => by
  refine I.val w fun v α1 H1 Z1 F1 x Fx w1 I1 s1 g1 r1 => ?_
  obtain ⟨ds, rfl, w2⟩ := onT.el w1
  exact ⟨α1, Z1, F1, .tup ds, N.nx, I1.rs, I1.g, RG.of r1.1 (show wpG (.tup ts) (.tup ds) α1 N.nx from w2), w2, fun α' σ' F' s g sm rs p => (I1.next s g sm rs).nxt p⟩
/-- (a, b, ..) = a list -/
theorem s_unl {kk : Nat} {tp : Pos} (he : PE X e (tE X.K rx c W m)) (hc : X.calm = true) (hg : PGs X es (tGs X.K sg ts)) (hn : (assignEach es X.env).length = ts.len := by rfl) (hst : (assignEach es X.env).findIdx? (·.1) = none := by rfl)
    (hs : swapsWithSole [.Tuple es kk tp] e pos.line X.env = pure false := by rfl) (hw : swappedStores [.Tuple es kk tp] e X.env = pure none := by rfl)
    (h1 : (assignEach [.Tuple es kk tp] X.env).map (·.2) = [assign (.Tuple es kk tp) X.env] := by rfl) : PS X (.Assign [.Tuple es kk tp] e pos) (tS X.K rx c W sg (.asg (.lst ts) m)) := PS.weak (ps_asg he (pg_lst hc hg hn hst) hs hw h1) fun D σ H ⟨α, Z, F, N, X', I, w⟩ => by
  refine I.val w fun v α1 H1 Z1 F1 x Fx w1 I1 s1 g1 r1 => ?_
  obtain ⟨ds, ed, w2⟩ := onO.el w1
  have I2 := I.frz s1 g1 I1.rs
  obtain ⟨a, vs, rfl, q, r⟩ := (r1.keepZ (Z' := fun a => Z1 a ∨ a ∈ Fx) fun _ z => .inl z).list ed
  exact ⟨a, vs, rfl, q, by rw [← r.len]; exact wpGs_len w2 wpG_ex, α1, _, F1, ds, N.nx, I2.rs, I2.g, r, w2, fun α' σ' F' s g sm rs p => (I2.next s g sm rs).nxt p⟩
end
/-- an item that is walked -/
def RY (K : PySem.W.Frag) (H : Hp) (Z : ZP) (t : ME) (d : D) (x : V) : Prop := RD K H Z d x ∨ (∃ ts, t = .tup ts) ∧ ∃ ds a vs, d = .tup ds ∧ x = .ref a ∧ SqT K H a vs ∧ RDs K H Z ds vs
theorem RY.rg {K : PySem.W.Frag} {H : Hp} {Z : ZP} {t : ME} {d : D} {x : V} {α : Sl} {k : Sl → Prop} (h : RY K H Z t d x) (w : wpG t d α k) : RG K H Z t d x := by
  rcases h with h | ⟨⟨ts, rfl⟩, h⟩
  · exact RG.of h w
  · exact h
/-- at this heap the iterator walks the data xs -/
def Drw (K : PySem.W.Frag) (J : It) (t : ME) (xs : List D) (H : Hp) (Z : ZP) : Prop :=
  (∀ i, i < xs.length → J.go i H ∧ ∀ x H', J.yld i H x H' → ∃ d, xs[i]? = some d ∧ New H Z H' Z [] ∧ RY K H' Z t d x) ∧ ∀ i, xs.length ≤ i → J.stop i H
/-- what comes of an iterator: gd holds at each turn, ex behind the last -/
def Got (K : PySem.W.Frag) (t : ME) (k : IK) (σ : L2.St) (H : Hp) (Z : ZP) (F : List Addr) (R : It → Hp → Prop) : Prop := ∀ xs gd ex α1, k xs gd ex α1 → ∀ H1 Z1 F1 J, Step H Z F H1 Z1 F1 → G3 H1 Z1 F1 → RS K H1 Z1 α1 σ F1 →
    (∀ H' Z' α' σ' F', Step H1 Z1 F1 H' Z' F' → G3 H' Z' F' → RS K H' Z' α' σ' F' → gd α' → RS K H' Z' (ex α') σ' F' ∧ Drw K J t xs H' Z') → R J H1
def tI (K : PySem.W.Frag) (rx : RX) (c : Am.Ctx) (W : WX) (t : ME) (m : MI) : TI := fun σ H R => ∃ α Z F, ∃ k : IK, ∃ X' : XP, RS K H Z α σ F ∧ G3 H Z F ∧ wpI c m α k X' ∧ (∀ e ds α', X' e ds α' → PX K rx σ H Z F W e ds α') ∧ Got K t k σ H Z F R
section
variable {K : PySem.W.Frag} {H H' H1 : Hp} {Z Z' Z1 : ZP} {F F' F1 : List Addr} {t : ME}
theorem RDs.drwL {a : Addr} {vs : List V} {xs : List D} (q : SqL K H a vs) (r : RDs K H Z xs vs) : Drw K (Itl K a) t xs H Z :=
  ⟨fun i hi => by
    obtain ⟨x, e1, r1⟩ := r.at (List.getElem?_eq_getElem hi)
    refine ⟨⟨vs, x, q, e1⟩, fun y H' hy => ?_⟩
    obtain ⟨rfl, h⟩ := hy
    have := h vs q
    rw [e1] at this
    cases this
    exact ⟨_, List.getElem?_eq_getElem hi, .refl, .inl r1⟩, fun i hi => ⟨vs, q, by rw [← r.len]; exact hi⟩⟩
theorem RDs.drwT {a : Addr} {vs : List V} {xs : List D} (q : SqT K H a vs) (r : RDs K H Z xs vs) : Drw K (Itt K a) t xs H Z :=
  ⟨fun i hi => by
    obtain ⟨x, e1, r1⟩ := r.at (List.getElem?_eq_getElem hi)
    refine ⟨⟨vs, x, q, e1⟩, fun y H' hy => ?_⟩
    obtain ⟨rfl, h⟩ := hy
    have := h vs q
    rw [e1] at this
    cases this
    exact ⟨_, List.getElem?_eq_getElem hi, .refl, .inl r1⟩, fun i hi => ⟨vs, q, by rw [← r.len]; exact hi⟩⟩
theorem charsD_len : ∀ s : T, (charsD s).length = s.length
  | [] => rfl
  | _ :: r => by show (charsD r).length + 1 = r.length + 1; rw [charsD_len r]
theorem charsD_at : ∀ (s : T) (i : Nat), (charsD s)[i]? = (s[i]?).map fun c => .str [c]
  | [], _ => rfl
  | _ :: _, 0 => rfl
  | _ :: r, i + 1 => charsD_at r i
theorem drwS {s : T} : Drw K (Its (sT s)) t (charsD s) H Z :=
  ⟨fun i hi => by
    rw [charsD_len] at hi
    have hs : i < (sT s).cps.size := by simpa [sT] using hi
    refine ⟨hs, fun y H' hy => ?_⟩
    obtain ⟨rfl, c, hc, rfl⟩ := hy
    have hc' : s[i]? = some c := by simpa [sT] using hc
    refine ⟨.str [c], by rw [charsD_at, hc']; rfl, .refl, .inl rfl⟩, fun i hi => by
    rw [charsD_len] at hi
    show (sT s).cps.size ≤ i
    simpa [sT] using hi⟩
theorem drwR {lo hi : Int} : Drw K (Itr lo (hi - lo).toNat) t (rangeD lo hi) H Z := by
  have hl : (rangeD lo hi).length = (hi - lo).toNat := by simp [rangeD]
  refine ⟨fun i h => ⟨by rw [hl] at h; exact h, fun y H' hy => ?_⟩, fun i h => by rw [hl] at h; exact h⟩
  obtain ⟨rfl, rfl⟩ := hy
  rw [hl] at h
  exact ⟨.int (lo + (i : Nat)), by simp [rangeD, h], .refl, .inl rfl⟩
end
section
variable {X : Cx} {rx : RX} {c : Am.Ctx} {W : WX} {sg : List Bool} {a b d e tg iter : Expr} {es : List Expr} {pos : Pos} {m ma mb md t : ME} {ms ts : MEs}
theorem PI.weak {wi wi' : TI} (h : PI X tg iter wi) (w : ∀ σ H R, wi' σ H R → wi σ H R) : PI X tg iter wi' := ⟨fun pins s σ H R I q => h.run pins s σ H R I (w _ _ _ q)⟩
def iAny (K : PySem.W.Frag) (tl : TE) : TI := fun σ H R => tl σ H fun x H1 => (∃ a xs, x = .ref a ∧ SqL K H1 a xs ∧ R (Itl K a) H1) ∨ (∃ a xs, x = .ref a ∧ SqT K H1 a xs ∧ R (Itt K a) H1) ∨ ∃ s, x = .str s ∧ R (Its s) H1
theorem pi_any {tl : TE} (hl : PE X e tl) : PI X tg e (iAny X.K tl) := by
  refine ⟨fun pins s σ H R I h => ?_⟩
  refine thn (hl.run pins s σ H _ I h) fun v s1 ⟨x, H1, I1, r1, q1⟩ => ?_
  rcases q1 with ⟨a, xs, e, hq, q⟩ | ⟨a, xs, e, hq, q⟩ | ⟨x', e, q⟩
  · subst e
    cases r1
    obtain ⟨its, rv, p, hz⟩ := I1.list hq
    exact wpAny_pyIter_list p.isList (pi_one (tk := s1.toks) I1 _ (turn_list a _) ⟨_, Heap.get?_push_size _ rfl, rfl, rfl⟩ q)
  · subst e
    cases r1
    obtain ⟨its, rv, p, hz⟩ := I1.tuple hq
    exact wpAny_pyIter_tuple (show s1.heap.IsTuple a its.toArray from p) (pi_one (tk := s1.toks) I1 _ (turn_tuple a _) ⟨_, Heap.get?_push_size _ rfl, rfl, rfl⟩ q)
  · subst e
    obtain ⟨t, rfl⟩ := r1
    cases ha : x'.cps.all (· < 128)
    · exact wpAny_pyIter_wide ha (pi_one (tk := s1.toks) I1 _ (turn_str _ x' t "str_iterator" (.inr rfl)) ⟨_, Heap.get?_push_size _ rfl, rfl, rfl⟩ q)
    · exact wpAny_pyIter_ascii ha (pi_one (tk := s1.toks) I1 _ (turn_str _ x' t "str_ascii_iterator" (.inl rfl)) ⟨_, Heap.get?_push_size _ rfl, rfl, rfl⟩ q)
/-- a source that is walked: a list, a tuple, a text -/
inductive Kd where
  | l (a : Addr) | t (a : Addr) | s (s : T)
def Kd.kn : Kd → Kn
  | .l _ => .l
  | .t _ => .t
  | .s _ => .s
def SrcOk (K : PySem.W.Frag) (H : Hp) (Z : ZP) (x : V) (xs : List D) : Kd → Prop
  | .l a => ∃ vs, x = .ref a ∧ SqL K H a vs ∧ RDs K H Z xs vs
  | .t a => ∃ vs, x = .ref a ∧ SqT K H a vs ∧ RDs K H Z xs vs
  | .s s => x = .str (sT s) ∧ xs = charsD s
/-- .. that is data -/
def SrcZ (K : PySem.W.Frag) (H : Hp) (Z : ZP) (x : V) (xs : List D) : Kd → Prop
  | .l a => ∃ vs, x = .ref a ∧ ZL K H Z a vs ∧ RDs K H Z xs vs
  | .t a => ∃ vs, x = .ref a ∧ TF H a vs ∧ RDs K H Z xs vs
  | .s s => x = .str (sT s) ∧ xs = charsD s
theorem SrcZ.ok {K : PySem.W.Frag} {H : Hp} {Z : ZP} {x : V} {xs : List D} {kd : Kd} (h : SrcZ K H Z x xs kd) : SrcOk K H Z x xs kd := by
  cases kd with
  | l a => obtain ⟨vs, e, q, r⟩ := h; exact ⟨vs, e, q.sq, r⟩
  | t a => obtain ⟨vs, e, q, r⟩ := h; exact ⟨vs, e, q.sq, r⟩
  | s s => exact h
theorem SrcZ.keep {K : PySem.W.Frag} {H H' : Hp} {Z Z' : ZP} {x : V} {xs : List D} {kd : Kd} (h : SrcZ K H Z x xs kd) (k : Keep H Z H' Z') : SrcZ K H' Z' x xs kd := by
  cases kd with
  | l a => obtain ⟨vs, e, q, r⟩ := h; exact ⟨vs, e, k.zL q, RDs.keep k xs r⟩
  | t a => obtain ⟨vs, e, q, r⟩ := h; exact ⟨vs, e, k.tf q, RDs.keep k xs r⟩
  | s s => exact h
theorem SrcZ.of {K : PySem.W.Frag} {H : Hp} {Z : ZP} {v : AV} {x : V} {F : List Addr} {k : List D → Prop} (h : RA K H Z v x F) (w : srcV v k) : ∃ xs kd, k xs ∧ kd.kn = kindA v ∧ SrcZ K H (fun a => Z a ∨ a ∈ F) x xs kd := by
  have kz : Keep H Z H (fun a => Z a ∨ a ∈ F) := .z fun _ z => .inl z
  have sq : (onO (seq? v) k) → ∃ xs kd, k xs ∧ kd.kn = kindA v ∧ SrcZ K H (fun a => Z a ∨ a ∈ F) x xs kd := fun w => by
    obtain ⟨xs, e, w⟩ := onO.el w
    refine ⟨xs, ?_⟩
    cases v with
    | p d =>
      cases d with
      | tup ds => cases e; obtain ⟨a, vs, rfl, q, r⟩ := h.1; exact ⟨.t a, w, rfl, vs, rfl, q, RDs.keep kz _ r⟩
      | lst ds => cases e; obtain ⟨a, vs, rfl, q, r⟩ := h.1; exact ⟨.l a, w, rfl, vs, rfl, kz.zL q, RDs.keep kz _ r⟩
      | _ => cases e
    | ol ds => cases e; obtain ⟨a, vs, rfl, rfl, q, r⟩ := h; exact ⟨.l a, w, rfl, vs, rfl, .inl ⟨.inr (by simp), .inl q⟩, RDs.keep kz _ r⟩
    | ll a ds => cases e; obtain ⟨vs, rfl, rfl, q, r⟩ := h; exact ⟨.l a, w, rfl, vs, rfl, .inl ⟨.inr (by simp), .inl q⟩, RDs.keep kz _ r⟩
    | _ => cases e
  cases v with
  | p d =>
    cases d with
    | str s => exact ⟨_, .s s, w, rfl, h.1, rfl⟩
    | _ => exact sq w
  | _ => exact sq w
/-- a source, held fast -/
def Src (K : PySem.W.Frag) (σ : L2.St) (H : Hp) (Z : ZP) (F : List Addr) (x : V) (k : IK) (kn : Kn) : Prop :=
    ∃ xs gd ex α2 Z2 F2 kd, k xs gd ex α2 ∧ kd.kn = kn ∧ Step H Z F H Z2 F2 ∧ G3 H Z2 F2 ∧ RS K H Z2 α2 σ F2 ∧ SrcOk K H Z2 x xs kd ∧
      ∀ H' Z' α' σ' F', Keep H Z2 H' Z' → G3 H' Z' F' → RS K H' Z' α' σ' F' → gd α' → RS K H' Z' (ex α') σ' F' ∧ SrcOk K H' Z' x xs kd
theorem src_run {K : PySem.W.Frag} {H : Hp} {Z : ZP} {σ : L2.St} {α : Sl} {F Fx : List Addr} {a : ME} {v : AV} {x : V} {k : IK} (o : Opd K H Z σ a x v Fx) (g : G3 H Z (F ++ Fx)) (rs : RS K H Z α σ F) (w : srcQ a v α k) : ∃ kn, (∀ k2 : AV → Prop, Am.fetch a v α k2 → ∃ u, kindA u = kn ∧ k2 u) ∧ Src K σ H Z (F ++ Fx) x k kn := by
  have val : RA K H Z v x Fx → (srcV v fun xs => k xs (fun _ => True) (fun β => β) α) → Src K σ H Z (F ++ Fx) x k (kindA v) := fun r w => by
    obtain ⟨xs, kd, hk, ek, z⟩ := SrcZ.of r w
    have g2 := G3.frz g
    exact ⟨xs, _, _, _, _, F, kd, hk, ek, .frz, g2, rs.keepZ fun _ z => .inl z, z.ok, fun H' Z' α' σ' F' s g' rs' _ => ⟨rs', (z.keep s).ok⟩⟩
  unfold Opd at o
  unfold srcQ at w
  unfold Am.fetch
  cases epl : plOf a v with
  | some p =>
    rw [epl] at o w
    obtain ⟨ex, rfl⟩ := o
    rw [List.append_nil] at g ⊢
    have w : match getP p α with
      | some (.ol xs) => ∀ tok, k xs (fun β => getP p β = some (.ll tok xs)) (fun β => setP p β (some (.ol xs))) (setP p α (some (.ll tok xs)))
      | some (.ll tok xs) => k xs (fun β => getP p β = some (.ll tok xs)) (fun β => β) α
      | some v => srcV v fun xs => k xs (fun _ => True) (fun β => β) α
      | none => False := w
    cases e : getP p α with
    | none => rw [e] at w; exact w.elim
    | some u =>
      rw [e] at w
      obtain ⟨y, Fi, Fr, h1, h2, p1, put, gone⟩ := rs.lens e
      obtain rfl : x = y := PathTo.fn ex h1
      refine ⟨kindA u, fun k2 hk2 => ?_, ?_⟩
      · have hk2 : onO (getP p α) k2 := hk2
        rw [e] at hk2
        exact ⟨u, rfl, hk2⟩
      cases u with
      | p d =>
        obtain ⟨rfl⟩ : Fi = [] := h2.2
        obtain ⟨xs, kd, hk, ek, z⟩ := SrcZ.of h2 w
        have z : SrcZ K H Z x xs kd := z.keep (.z fun a h => by simpa using h)
        exact ⟨xs, _, _, _, Z, F, kd, hk, ek, .refl, g, rs, z.ok, fun H' Z' α' σ' F' s g' rs' _ => ⟨rs', (z.keep s).ok⟩⟩
      | ol xs =>
        obtain ⟨ad, vs, rfl, rfl, q, r⟩ := h2
        have r1 : RA K H Z (.ll ad xs) (.ref ad) [ad] := ⟨vs, rfl, rfl, q, r⟩
        have rs2 := put Z (fun _ h => h) _ _ r1
        refine ⟨xs, _, _, _, Z, [ad] ++ Fr, .l ad, w ad, rfl, Step.refl.permR p1, g.perm p1, rs2, ⟨vs, rfl, .of q, r⟩, fun H' Z' α' σ' F' s g' rs' hg => ?_⟩
        obtain ⟨y, Gi, Gr, e1, ⟨us, e2, e3, q', r'⟩, p2, put', _⟩ := rs'.lens hg
        exact ⟨(put' Z' (fun _ h => h) (.ol xs) Gi ⟨ad, us, e2, e3, q', r'⟩).perm p2.symm, ⟨us, rfl, .of q', r'⟩⟩
      | ll ad xs =>
        obtain ⟨vs, rfl, rfl, q, r⟩ := h2
        refine ⟨xs, _, _, _, Z, F, .l ad, w, rfl, .refl, g, rs, ⟨vs, rfl, .of q, r⟩, fun H' Z' α' σ' F' s g' rs' hg => ?_⟩
        obtain ⟨y, Gi, Gr, e1, ⟨us, e2, e3, q', r'⟩, p2, put', _⟩ := rs'.lens hg
        exact ⟨rs', ⟨us, rfl, .of q', r'⟩⟩
      | od _ => exact w.elim
      | ld _ _ => exact w.elim
      | oi _ _ => exact w.elim
  | none =>
    rw [epl] at o w
    exact ⟨kindA v, fun k2 hk2 => ⟨v, rfl, hk2⟩, val o w⟩
theorem si_seq (he : PE X e (tO X.K rx c W m)) (h1 : okO m = true := by rfl) : PI X tg e (tI X.K rx c W t (.seq m)) := PI.weak (pi_any he) fun σ H R ⟨α, Z, F, k, X', rs, g, w, hX, cont⟩ => by
  have w : pre m (fun α k => wpE c m α k X') α fun v α1 => srcQ m v α1 k := w
  refine opd_run h1 rs g w hX fun v α1 H1 Z1 F1 x Fx w1 s1 g1 rs1 o1 => ?_
  obtain ⟨_, _, xs, gd, ex, α2, Z2, F2, kd, hk, _, s2, g2, rs2, sk, later⟩ := src_run o1 g1 rs1 w1
  have fin := fun J => cont xs gd ex α2 hk H1 Z2 F2 J (s1.trans s2) g2 rs2
  cases kd with
  | l a =>
    obtain ⟨vs, rfl, q, r⟩ := sk
    refine .inl ⟨a, vs, rfl, q, fin _ fun H' Z' α' σ' F' s g' rs' hg => ?_⟩
    obtain ⟨a1, us, e, q', r'⟩ := later H' Z' α' σ' F' (s.keep g2) g' rs' hg
    exact ⟨a1, r'.drwL q'⟩
  | t a =>
    obtain ⟨vs, rfl, q, r⟩ := sk
    refine .inr (.inl ⟨a, vs, rfl, q, fin _ fun H' Z' α' σ' F' s g' rs' hg => ?_⟩)
    obtain ⟨a1, us, e, q', r'⟩ := later H' Z' α' σ' F' (s.keep g2) g' rs' hg
    exact ⟨a1, r'.drwT q'⟩
  | s st =>
    obtain ⟨rfl, rfl⟩ := sk
    refine .inr (.inr ⟨_, rfl, fin _ fun H' Z' α' σ' F' s g' rs' hg => ?_⟩)
    exact ⟨(later H' Z' α' σ' F' (s.keep g2) g' rs' hg).1, drwS⟩
theorem si_range1 {p : Pos} (hm : X.mg "range" = none) (ha : PA X [a] (tEs X.K rx c W (.cons ma .nil))) (hg : Gl X "range" := by rfl) (hs : starEach [a] X.env = [(false, eval a X.env)] := by rfl) :
    PI X tg (.Call (.Name "range" p) [a] [] pos) (tI X.K rx c W t (.range (.cons ma .nil))) := PI.weak (pi_range1 hg hm ha hs) fun σ H R ⟨α, Z, F, k, X', rs, g, w, hX, cont⟩ => by
  have w : wpEs c (.cons ma .nil) α (fun vs α1 => match vs with
    | [x] => onI x fun j => (-(2 ^ 62) ≤ j ∧ j < 2 ^ 62) ∧ k (rangeD 0 j) (fun _ => True) (fun β => β) α1
    | _ => False) X' := w
  refine ⟨α, Z, F, _, X', rs, g, w, fun vs α1 w1 H1 Z1 F1 xs Fx s1 g1 rs1 r1 => ?_, hX⟩
  match vs, w1, r1 with
  | [v], w1, r1 =>
    obtain ⟨x, q, Fa, Fb, rfl, rfl, ra, ⟨rfl, rfl⟩⟩ := r1
    obtain ⟨j, rfl, ⟨b1, b2⟩, w3⟩ := onI.el w1
    obtain ⟨rfl, rfl⟩ := ra
    rw [List.append_nil, List.append_nil] at s1 g1
    refine ⟨j, rfl, b1, b2, cont _ _ _ _ w3 H1 Z1 F1 _ s1 g1 rs1 fun H' Z' α' σ' F' s g' rs' _ => ⟨rs', ?_⟩⟩
    have := drwR (K := X.K) (H := H') (Z := Z') (t := t) (lo := 0) (hi := j)
    rwa [Int.sub_zero] at this
theorem si_range2 {p : Pos} (hm : X.mg "range" = none) (ha : PA X [a, b] (tEs X.K rx c W (.cons ma (.cons mb .nil)))) (hg : Gl X "range" := by rfl) (hs : starEach [a, b] X.env = [(false, eval a X.env), (false, eval b X.env)] := by rfl) (hs2 : starEach [b] X.env = [(false, eval b X.env)] := by rfl) :
    PI X tg (.Call (.Name "range" p) [a, b] [] pos) (tI X.K rx c W t (.range (.cons ma (.cons mb .nil)))) := PI.weak (pi_range2 hg hm ha hs hs2) fun σ H R ⟨α, Z, F, k, X', rs, g, w, hX, cont⟩ => by
  have w : wpEs c (.cons ma (.cons mb .nil)) α (fun vs α1 => match vs with
    | [x, y] => onI x fun i => onI y fun j => (-(2 ^ 62) ≤ i ∧ i < 2 ^ 62 ∧ -(2 ^ 62) ≤ j ∧ j < 2 ^ 62) ∧ k (rangeD i j) (fun _ => True) (fun β => β) α1
    | _ => False) X' := w
  refine ⟨α, Z, F, _, X', rs, g, w, fun vs α1 w1 H1 Z1 F1 xs Fx s1 g1 rs1 r1 => ?_, hX⟩
  match vs, w1, r1 with
  | [v, u], w1, r1 =>
    obtain ⟨x, q, Fa, Fb, rfl, rfl, ra, ⟨y, q', Fc, Fd, rfl, rfl, rb, ⟨rfl, rfl⟩⟩⟩ := r1
    obtain ⟨i, rfl, w2⟩ := onI.el w1
    obtain ⟨j, rfl, bd, w3⟩ := onI.el w2
    obtain ⟨rfl, rfl⟩ := ra
    obtain ⟨rfl, rfl⟩ := rb
    rw [List.append_nil, List.append_nil, List.append_nil] at s1 g1
    exact ⟨i, j, rfl, bd, cont _ _ _ _ w3 H1 Z1 F1 _ s1 g1 rs1 fun H' Z' α' σ' F' s g' rs' _ => ⟨rs', drwR⟩⟩
variable {st : Stmt} {body : List Stmt} {mi : MI} {bs : MSs}
theorem In.at1 {α : Type} : ∀ {l r : List α} {i : Nat} {d : α}, l.drop i = d :: r → l[i]? = some d ∧ l.drop (i + 1) = r ∧ i < l.length
  | [], _, i, _, h => by simp at h
  | x :: l, r, 0, d, h => by simp at h; simp [h]
  | x :: l, r, i + 1, d, h => by
    have h : l.drop i = d :: r := by simpa using h
    obtain ⟨a, b, e⟩ := In.at1 h
    exact ⟨by simpa using a, by simpa using b, by simpa using e⟩
theorem s_for (hp : PassesOwn (model X.prog X.w) X.A X.env X.xe) (hc : X.calm = true) (hi : PI X tg iter (tI X.K rx c W t mi)) (hg : PG X tg (tG X.K sg t)) (hb : PSs X body (tSs X.K rx c W sg bs))
    (hs : ∀ x, foldedSetIterable iter X.env x = pure x := by intro _; rfl) : PS X (.For tg iter body [] pos) (tS X.K rx c W sg (.for t mi bs)) := PS.weak (ps_for hp hc hi hg hb hs) fun D σ H ⟨α, Z, F, N, X', I, w⟩ => by
  refine ⟨α, Z, F, _, X', I.rs, I.g, w, I.px, fun xs gd ex α1 w1 H1 Z1 F1 J s1 g1 rs1 later => ?_⟩
  have I1 := I.next s1 g1 .refl rs1
  have w1 : loopW (fun d β k => wpG t d β k) (fun β k => wpSs c bs β ⟨k, fun v γ => gd γ ∧ N.rt v (ex γ)⟩ fun e ds γ => gd γ ∧ X' e ds (ex γ)) gd xs α1 fun α2 => N.nx (ex α2) := w1
  refine ⟨fun i m σ' H' => m = xs.length - i ∧ ∃ α' Z' F', InS X.K rx W sg σ' H' Z' F' α' N X' D ∧ Step H1 Z1 F1 H' Z' F' ∧ Same sg σ σ' ∧
    loopW (fun d β k => wpG t d β k) (fun β k => wpSs c bs β ⟨k, fun v γ => gd γ ∧ N.rt v (ex γ)⟩ fun e ds γ => gd γ ∧ X' e ds (ex γ)) gd (xs.drop i) α' fun α2 => N.nx (ex α2), ⟨_, rfl, α1, Z1, F1, I1, .refl, .refl, w1⟩, ?_⟩
  rintro i m σ' H' ⟨rfl, α', Z', F', I', s', sm, w⟩
  cases e : xs.drop i with
  | nil =>
    rw [e] at w
    obtain ⟨hgd, w⟩ : gd α' ∧ N.nx (ex α') := w
    obtain ⟨rs2, dr⟩ := later H' Z' α' σ' F' s' I'.g I'.rs hgd
    exact .inl ⟨dr.2 i (by simpa using e), (I'.next .refl I'.g .refl rs2).nxt w⟩
  | cons d r =>
    obtain ⟨e1, e2, e3⟩ := In.at1 e
    rw [e] at w
    obtain ⟨hgd, w⟩ : gd α' ∧ wpG t d α' fun α1 => wpSs c bs α1 ⟨fun α2 => loopW (fun d β k => wpG t d β k) (fun β k => wpSs c bs β ⟨k, fun v γ => gd γ ∧ N.rt v (ex γ)⟩ fun e ds γ => gd γ ∧ X' e ds (ex γ)) gd r α2 fun α2 => N.nx (ex α2), fun v γ => gd γ ∧ N.rt v (ex γ)⟩ fun e ds γ => gd γ ∧ X' e ds (ex γ) := w
    obtain ⟨rs2, dr⟩ := later H' Z' α' σ' F' s' I'.g I'.rs hgd
    obtain ⟨go, yl⟩ := dr.1 i e3
    refine .inr ⟨go, fun σ2 H2 => ∃ m', m' < xs.length - i ∧ m' = xs.length - (i + 1) ∧ ∃ α' Z' F', InS X.K rx W sg σ2 H2 Z' F' α' N X' D ∧ Step H1 Z1 F1 H2 Z' F' ∧ Same sg σ σ2 ∧
      loopW (fun d β k => wpG t d β k) (fun β k => wpSs c bs β ⟨k, fun v γ => gd γ ∧ N.rt v (ex γ)⟩ fun e ds γ => gd γ ∧ X' e ds (ex γ)) gd (xs.drop (i + 1)) α' fun α2 => N.nx (ex α2), fun σ2 H2 ⟨m', a, b, q⟩ => ⟨m', a, b, q⟩, fun x H2 hy => ?_⟩
    obtain ⟨d', ed, nw, ry⟩ := yl x H2 hy
    rw [e1] at ed
    cases ed
    have st := nw F' I'.g
    rw [List.append_nil] at st
    have rs3 := I'.rs.new nw I'.g.zt
    refine ⟨α', Z', F', d, _, rs3, st.2, ry.rg w, w, fun α2 σ2 F2 s2 g2 sm2 rs4 w2 => ?_⟩
    have sB := st.1.trans s2
    have I2 := I'.next sB g2 sm2 rs4
    have sT : Step H1 Z1 F1 H2 Z' F2 := s'.trans sB
    refine ⟨α2, Z', F2, _, _, ⟨rs4, g2, fun α3 w3 H3 Z3 F3 σ3 s3 g3 sm3 rs5 => ?_, fun v α3 w3 H3 Z3 F3 Fr y σ3 s3 g3 sm3 rs5 ra => ?_, fun ee ds α3 w3 H3 Z3 F3 σ3 cls dd s3 g3 sm3 rs5 hr => ?_⟩, w2⟩
    · rw [e2]
      exact ⟨_, by omega, rfl, α3, Z3, F3, I2.next s3 g3 sm3 rs5, sT.trans s3, (sm.trans sm2).trans sm3, w3⟩
    · obtain ⟨hgd3, w3⟩ := w3
      have s4 : Step H1 Z1 F1 H3 Z3 F3 := (sT.trans s3).lessR fun _ h => List.mem_append_left _ h
      exact I2.hR v (ex α3) w3 H3 Z3 F3 Fr y σ3 s3 g3 sm3 (later H3 Z3 α3 σ3 F3 s4 g3.left rs5 hgd3).1 ra
    · obtain ⟨hgd3, w3⟩ := w3
      exact I2.hX ee ds (ex α3) w3 H3 Z3 F3 σ3 cls dd s3 g3 sm3 (later H3 Z3 α3 σ3 F3 (sT.trans s3) g3 rs5 hgd3).1 hr
theorem s_while (hp : PassesOwn (model X.prog X.w) X.A X.env X.xe) (hc : PT X d (tT X.K rx c W m)) (hb : PSs X body (tSs X.K rx c W sg bs)) : PS X (.While d body [] pos) (tS X.K rx c W sg (.whl m bs)) := PS.weak (ps_while hp hc hb) fun D σ H ⟨α, Z, F, N, X', I, w⟩ => by
  obtain ⟨n, w⟩ : ∃ n, loopN (fun β k => wpE c m β (fun v β1 => onB v fun r => k r β1) X') (fun β k => wpSs c bs β ⟨k, N.rt⟩ X') n α N.nx := w
  refine ⟨fun n σ' H' => ∃ α' Z' F', InS X.K rx W sg σ' H' Z' F' α' N X' D ∧ loopN (fun β k => wpE c m β (fun v β1 => onB v fun r => k r β1) X') (fun β k => wpSs c bs β ⟨k, N.rt⟩ X') n α' N.nx, ⟨n, α, Z, F, I, w⟩, ?_⟩
  rintro n σ' H' ⟨α', Z', F', I', w⟩
  cases n with
  | zero => exact w.elim
  | succ n =>
    have w : wpE c m α' (fun v β1 => onB v fun r => ifB r (wpSs c bs β1 ⟨fun α2 => loopN (fun β k => wpE c m β (fun v β1 => onB v fun r => k r β1) X') (fun β k => wpSs c bs β ⟨k, N.rt⟩ X') n α2 N.nx, N.rt⟩ X') (N.nx β1)) X' := w
    refine I'.val w fun v α1 H1 Z1 F1 x Fx w1 I1 s1 g1 r1 => ?_
    obtain ⟨r, rfl, w2⟩ := onB.el w1
    refine ⟨r, ra_bl r1, ?_⟩
    cases r with
    | false => exact I1.nxt w2
    | true =>
      rw [if_pos rfl]
      refine ⟨fun σ2 H2 => ∃ α' Z' F', InS X.K rx W sg σ2 H2 Z' F' α' N X' D ∧ loopN (fun β k => wpE c m β (fun v β1 => onB v fun r => k r β1) X') (fun β k => wpSs c bs β ⟨k, N.rt⟩ X') n α' N.nx, fun σ2 H2 q => ⟨n, Nat.lt_succ_self n, q⟩, ?_⟩
      exact ⟨α1, Z1, F1, ⟨fun α2 => loopN (fun β k => wpE c m β (fun v β1 => onB v fun r => k r β1) X') (fun β k => wpSs c bs β ⟨k, N.rt⟩ X') n α2 N.nx, N.rt⟩, X', I1.ends (fun α2 w3 H2 Z2 F2 σ2 s2 g2 sm2 rs2 => ⟨α2, Z2, F2, I1.next s2 g2 sm2 rs2, w3⟩) I1.hR, w2⟩
end
end Am

set_option maxHeartbeats 4000000
namespace Am
open PySem PySem.Spec PyProof.Rows L2
variable [CN]
@[reducible] def cx (PP : Prog) (k : Nat) : Am.Ctx := ⟨wpF0 PP k, fun g => match getL PP.fns g with | some e => e.sig | none => [], PP.sub, PP.cls⟩
section
variable {K : PySem.W.Frag} {H : Hp} {Z : ZP}
theorem RL.ras {m : Nat} : ∀ {as : List AV} {vs : List V} {F : List Addr}, RL K H Z as vs F → RAs K H Z (as.map some ++ List.replicate m none) (vs.map some ++ List.replicate m none) F
  | [], _, _, ⟨rfl, rfl⟩ => by
    simp only [List.map_nil, List.nil_append]
    induction m with
    | zero => exact ⟨rfl, rfl⟩
    | succ m ih => exact ⟨none, _, rfl, ih⟩
  | v :: r, _, _, ⟨x, q, F1, F2, e, ef, h1, h2⟩ => by
    subst e
    subst ef
    exact ⟨x, _, F1, F2, rfl, rfl, h1, RL.ras h2⟩
theorem out_ok : ∀ {sig : List Bool} {vs : List V} {α : Sl} {σ : L2.St} {F : List Addr}, RAs K H Z α σ F → vs.length = sig.length → vs.length ≤ σ.length → (∀ j, getL sig j = some false → σ[j]? = (vs.map some)[j]?) →
    ∃ Fo rest, RAs K H Z (outS sig α) (vs.map some) Fo ∧ F.Perm (Fo ++ rest)
  | [], [], _, _, F, _, _, _, _ => ⟨[], F, by unfold outS; exact ⟨rfl, rfl⟩, List.Perm.refl _⟩
  | [], _ :: _, _, _, _, _, h, _, _ => by simp at h
  | _ :: _, [], _, _, _, _, h, _, _ => by simp at h
  | b :: sig, v :: vs, [], _, F, ⟨rfl, _⟩, _, h, _ => by simp at h
  | b :: sig, v :: vs, none :: α, _, F, ⟨y, q, rfl, hr⟩, hl, hs, hj => by
    obtain ⟨Fo, rest, a1, a2⟩ := out_ok (sig := sig) (vs := vs) hr (by simpa using hl) (by simpa using hs) fun j hg => by simpa using hj (j + 1) hg
    cases b with
    | true => exact ⟨Fo, rest, ⟨some v, _, rfl, a1⟩, a2⟩
    | false => exact ⟨Fo, rest, ⟨some v, _, rfl, a1⟩, a2⟩
  | b :: sig, v :: vs, some u :: α, _, F, ⟨x, q, F1, F2, eσ, eF, hu, hr⟩, hl, hs, hj => by
    subst eσ
    subst eF
    obtain ⟨Fo, rest, a1, a2⟩ := out_ok (sig := sig) (vs := vs) hr (by simpa using hl) (by simpa using hs) fun j hg => by simpa using hj (j + 1) hg
    cases b with
    | true => exact ⟨Fo, F1 ++ rest, ⟨some v, _, rfl, a1⟩, (List.Perm.append_left F1 a2).trans mid3⟩
    | false =>
      have e : x = v := by
        have := hj 0 rfl
        simpa using this
      subst e
      exact ⟨F1 ++ Fo, rest, ⟨x, _, F1, Fo, rfl, rfl, hu, a1⟩, by rw [List.append_assoc]; exact List.Perm.append_left F1 a2⟩
end
theorem getL_app {α : Type} : ∀ {l r : List α} {i : Nat} {x : α}, getL l i = some x → getL (l ++ r) i = some x
  | _ :: _, _, 0, _, h => h
  | _ :: l, r, i + 1, x, h => getL_app (l := l) h
section
variable {P : Program} {w : World} {K : PySem.W.Frag} {mg : Str → Option Value} {base : Heap} {rx : RX}
abbrev cxA (P : Program) (w : World) (K : PySem.W.Frag) (mg : Str → Option Value) (base : Heap) (N : List Str) (qual : Str) (st : Stmt) (f : Addr) (cdv : Value) (A : Around) (outer : List Env) (s : Shared) (H : Hp) (E : XK) : Cx := cxOf (L2.CX P w) P w K mg base N qual (defScope st) f cdv A outer s H E
/-- what a body's proof may lean on -/
structure Bd (X : Cx) (k : Nat) (W : WX) : Prop where
  hr : Room k X.A
  tk : Takes X W
  po : PassesOwn (model X.prog X.w) X.A X.env X.xe
  nd : X.N.Nodup
  hc : X.calm = true
theorem Bd.hu {X : Cx} {k : Nat} {W : WX} (b : Bd X k W) : X.A.units + 190 < cLine := by have := b.hr.un; omega
theorem fn_ok {x qual : Str} {st : Stmt} {f : Addr} {fd : FuncData} {N ps : List Str} {k L i : Nat} {PP : Prog} {d : Fn} (F : Fun K x qual st f fd) (S : FnScope N ps (defScope st)) (hd : getL PP.fns i = some d) (hnp : d.np = ps.length) (hsg : d.sig.length = d.np) (hns : d.ns = N.length)
    (hbody : ∀ (cdv : Value) (A : Around) (outer : List Env) (s : Shared) (H : Hp) (E : XK), Bd (cxA P w K mg base N qual st f cdv A outer s H E) L (fun cls d _ H => E cls d H) →
      PSs (cxA P w K mg base N qual st f cdv A outer s H E) (defBody st) (tSs K rx (cx PP k) (fun cls d _ H => E cls d H) (d.sig ++ List.replicate (d.ns - d.np) true) d.body)) :
    FnOk P w K mg base (L2.CX P w) (L + 1) f fd ps (spA K rx (wpF0 PP (k + 1) i)) := by
  have un : ∀ {as : List AV} {PF : FP} {XF : FX}, wpF0 PP (k + 1) i as PF XF → as.length = d.np ∧ (∀ j, getL d.sig j = some true → ∃ v, getL as j = some (.p v)) ∧
      wpSs (cx PP k) d.body (padS as d.ns) ⟨fun α => PF (.p .non) (outS d.sig α), fun v α => PF v (outS d.sig α)⟩ fun e ds α => XF e ds (outS d.sig α) := fun h => by
    have h : (match getL PP.fns i with
      | none => False
      | some d => _) := h
    rw [hd] at h
    exact h
  have hN : ps.length ≤ N.length := by
    have := congrArg List.length S.pre
    rw [List.length_take] at this
    omega
  refine F.okX S (fun vs H Q E h => ?_) (fun cdv A outer s H vs Q E hr h => ?_)
  · obtain ⟨Z, as, Fo, PF, XF, rl, _, hw, _⟩ := h
    rw [← rl.len, (un hw).1, hnp]
  · obtain ⟨Z, as, Fo, PF, XF, rl, g, hw, hret, hexc⟩ := h
    obtain ⟨hl, hp, hw⟩ := un hw
    refine ⟨_, hbody cdv A outer s H E ⟨hr, takes_of rfl rfl rfl rfl, passes_of rfl, S.nd, rfl⟩, ?_⟩
    have hvl : vs.length = ps.length := by rw [← rl.len, hl, hnp]
    have hst : (L2.start N vs).length = N.length := by
      unfold L2.start
      rw [List.length_append, List.length_map, List.length_replicate]
      omega
    have out : ∀ {H' : Hp} {Z' : ZP} {α' : Sl} {σ' : L2.St} {F' : List Addr}, Same (d.sig ++ List.replicate (d.ns - d.np) true) (L2.start N vs) σ' → RS K H' Z' α' σ' F' → ∃ F1 rest, RAs K H' Z' (outS d.sig α') (vs.map some) F1 ∧ F'.Perm (F1 ++ rest) := fun {H' Z' α' σ' F'} sm rs => by
      obtain ⟨F0, rs, p0⟩ := rs
      obtain ⟨F1, rest, a1, a2⟩ := out_ok (sig := d.sig) (vs := vs) rs (by rw [hvl, hsg, hnp]) (by rw [sm.1, hst, hvl]; exact hN) fun j hj => by
        rw [sm.2 j (by rw [getL_app hj]; intro z; cases z)]
        have hjl : j < vs.length := by
          have := getL_lt hj
          rw [hvl, ← hnp, ← hsg]
          exact this
        unfold L2.start
        rw [List.getElem?_append_left (by rw [List.length_map]; exact hjl)]
      exact ⟨F1, rest, a1, p0.trans a2⟩
    refine ⟨padS as d.ns, Z, Fo, _, _, ⟨?_, g, fun α' w' H' Z' F' σ' s1 g1 sm rs => ?_, fun v α' w' H' Z' F' Fr y σ' s1 g1 sm rs ra => ?_, fun e ds α' w' H' Z' F' σ' cls dd s1 g1 sm rs hr => ?_⟩, hw⟩
    · refine ⟨Fo, ?_, List.Perm.refl _⟩
      have := RL.ras (m := N.length - vs.length) rl
      rw [padS_eq]
      unfold L2.start
      rw [hns, rl.len]
      exact this
    · obtain ⟨F1, rest, a1, a2⟩ := out sm rs
      exact hret _ _ w' H' Z' .non F1 [] (((s1.permR a2).lessR fun _ h => by rw [List.append_nil] at h; exact List.mem_append_left _ h)) (by rw [List.append_nil]; exact (g1.perm a2).left) a1 ⟨rfl, rfl⟩
    · obtain ⟨F1, rest, a1, a2⟩ := out sm rs
      have pp : (F' ++ Fr).Perm ((F1 ++ Fr) ++ rest) := (List.Perm.append_right Fr a2).trans assoc3'
      exact hret _ _ w' H' Z' y F1 Fr ((s1.permR pp).lessR fun _ h => List.mem_append_left _ h) (g1.perm pp).left a1 ra
    · obtain ⟨F1, rest, a1, a2⟩ := out sm rs
      exact hexc e ds _ w' H' Z' F1 cls dd ((s1.permR a2).lessR fun _ h => List.mem_append_left _ h) (g1.perm a2).left a1 hr
/-- .. in the body of a try -/
theorem Bd.tr {X : Cx} {k : Nat} {W W' : WX} (b : Bd X k W) {pn : List (Addr × Obj)} {xe : Value → Shared → Prop} (tk : Takes (X.tr pn xe) W') (po : PassesOwn (model X.prog X.w) X.A X.env xe) : Bd (X.tr pn xe) k W' := ⟨b.hr, tk, po, b.nd, b.hc⟩
/-- nothing is promised at depth 0 -/
theorem fn_ok0 {f : Addr} {fd : FuncData} {ps : List Str} {L i : Nat} {PP : Prog} : FnOk P w K mg base (L2.CX P w) L f fd ps (spA K rx (wpF0 PP 0 i)) := by
  have no : ∀ vs H Q E, ¬ spA K rx (wpF0 PP 0 i) vs H Q E := fun vs H Q E ⟨_, _, _, _, _, _, _, h, _⟩ => h
  exact ⟨fun vs H Q E h => (no vs H Q E h).elim, fun _ _ _ _ _ _ _ _ _ _ _ _ _ h => (no _ _ _ _ h).elim⟩
end
end Am

set_option maxHeartbeats 4000000
namespace Am
open PySem PySem.Spec PyProof.Rows L2
variable [CN]
section
variable {K : PySem.W.Frag} {H : Hp} {Z : ZP}
theorem RLr.one {us : List AV} {x : V} (h : RLr K H Z us [x]) : ∃ v F, us = [v] ∧ RA K H Z v x F := by
  match us, h with
  | [v], ⟨y, q, F, e, r, e2⟩ => cases e; exact ⟨v, F, rfl, r⟩
  | [], h => cases h
  | _ :: _ :: _, ⟨y, q, F, e, r, ⟨_, _, _, e2, _⟩⟩ => cases e; cases e2
theorem RLr.one' {v : AV} {xs : List V} (h : RLr K H Z [v] xs) : ∃ x F, xs = [x] ∧ RA K H Z v x F := by
  obtain ⟨y, q, F, e, r, e2⟩ := h
  cases e2
  exact ⟨y, F, e, r⟩
theorem RLr.two' {v u : AV} {xs : List V} (h : RLr K H Z [v, u] xs) : ∃ x y F G, xs = [x, y] ∧ RA K H Z v x F ∧ RA K H Z u y G := by
  obtain ⟨x, q, F, e, r, ⟨y, q', G, e', r', e2⟩⟩ := h
  cases e2
  subst e'
  exact ⟨x, y, F, G, e, r, r'⟩
/-- a sequence as it is read -/
theorem RA.seq {v : AV} {x : V} {F : List Addr} {ds : List D} (h : RA K H Z v x F) (e : seq? v = some ds) : ∃ a vs, x = .ref a ∧ (SqL K H a vs ∨ TF H a vs) ∧ RDs K H Z ds vs := by
  cases v with
  | p d =>
    cases d with
    | tup xs => cases e; obtain ⟨a, vs, h1, h2, h3⟩ := h.1; exact ⟨a, vs, h1, .inr h2, h3⟩
    | lst xs => cases e; obtain ⟨a, vs, h1, h2, h3⟩ := h.1; exact ⟨a, vs, h1, .inl h2.sq, h3⟩
    | _ => cases e
  | ol xs => cases e; obtain ⟨a, vs, h1, _, h2, h3⟩ := h; exact ⟨a, vs, h1, .inl (.of h2), h3⟩
  | ll a xs => cases e; obtain ⟨vs, h1, _, h2, h3⟩ := h; exact ⟨a, vs, h1, .inl (.of h2), h3⟩
  | _ => cases e
end
section
variable {X : Cx} {c : Am.Ctx}
theorem cr_of {f : Value} {b : Bi} {n : Nat} (h : ∀ (pins : List (Addr × Obj)) (s : Shared) (σ : L2.St) (H : Hp) (xs : List V) (us : List Value) (Q : VK) (Z : ZP) (vs : List AV) (k : AV → Prop), Inv X pins σ H s → Vals xs us → Zt H Z → RLr X.K H Z vs xs → biQ c b vs k → ResP X.K H Z k Q →
    wpAny (model X.prog X.w) X.A (call f us) (EP X pins σ Q) X.xe s) : CallR X f (rBi X.K c b) := fun pins s σ H xs us Q I r ⟨Z, vs, k, zt, rl, w, res⟩ => h pins s σ H xs us Q Z vs k I r zt rl w res
theorem cr_abs : CallR X (.builtin "abs") (rBi X.K c .abs) := fun pins s σ H xs us Q I r ⟨Z, vs, k, zt, rl, w, res⟩ => by
  match vs, w, rl with
  | [v], w, rl =>
    obtain ⟨i, rfl, w⟩ := onI.el w
    obtain ⟨x, F, rfl, ra⟩ := rl.one'
    exact call_abs pins s σ H _ us Q I r ⟨i, by rw [ra_int ra], res.d w rfl⟩
theorem cr_max2 (hc : X.calm = true) : CallR X (.builtin "max") (rBi X.K c .max2) := fun pins s σ H xs us Q I r ⟨Z, vs, k, zt, rl, w, res⟩ => by
  match vs, w, rl with
  | [v, u], w, rl =>
    obtain ⟨i, rfl, w⟩ := onI.el w
    obtain ⟨j, rfl, w⟩ := onI.el w
    obtain ⟨x, y, F, G, rfl, ra, rb⟩ := rl.two'
    have e : max i j = if j > i then j else i := by rw [Int.max_def]; split <;> split <;> omega
    have w2 : k (.p (.int (max i j))) := w
    rw [e] at w2
    exact call_max2 hc pins s σ H _ us Q I r ⟨i, j, by rw [ra_int ra, ra_int rb], res.d w2 rfl⟩
theorem cr_min2 (hc : X.calm = true) : CallR X (.builtin "min") (rBi X.K c .min2) := fun pins s σ H xs us Q I r ⟨Z, vs, k, zt, rl, w, res⟩ => by
  match vs, w, rl with
  | [v, u], w, rl =>
    obtain ⟨i, rfl, w⟩ := onI.el w
    obtain ⟨j, rfl, w⟩ := onI.el w
    obtain ⟨x, y, F, G, rfl, ra, rb⟩ := rl.two'
    have e : min i j = if j < i then j else i := by rw [Int.min_def]; split <;> split <;> omega
    have w2 : k (.p (.int (min i j))) := w
    rw [e] at w2
    exact call_min2 hc pins s σ H _ us Q I r ⟨i, j, by rw [ra_int ra, ra_int rb], res.d w2 rfl⟩
theorem cr_len : CallR X (.builtin "len") (rBi X.K c .len) := fun pins s σ H xs us Q I r ⟨Z, vs, k, zt, rl, w, res⟩ => by
  match vs, w, rl with
  | [v], w, rl =>
    obtain ⟨x, F, rfl, ra⟩ := rl.one'
    have w : lenQ v fun n => k (.p (.int n)) := w
    have dct : ∀ kvs, dict? v = some kvs → k (.p (.int kvs.length)) → wpAny (model X.prog X.w) X.A (call (.builtin "len") us) (EP X pins σ Q) X.xe s := fun kvs e w => by
      obtain ⟨a, ws, rfl, h1, h2⟩ := ra.dict e
      obtain ⟨u, rfl, rx⟩ := vals1 r
      cases rx
      exact d_len I h1 fun t s' I' => ⟨.int ws.length, H, I', ⟨t, rfl⟩, by rw [← h2.len]; exact res.d w rfl⟩
    have sq : (onO (seq? v) fun xs => k (.p (.int xs.length))) → wpAny (model X.prog X.w) X.A (call (.builtin "len") us) (EP X pins σ Q) X.xe s := fun w => by
      obtain ⟨ds, e, w⟩ := onO.el w
      obtain ⟨a, ws, rfl, h1, h2⟩ := ra.seq e
      exact call_len_seq pins s σ H _ us Q I r ⟨a, ws, rfl, h1.imp id TF.sq, by rw [← h2.len]; exact res.d w rfl⟩
    cases v with
    | p d =>
      cases d with
      | str t =>
        obtain ⟨hz, w⟩ : t.length ≤ big ∧ k (.p (.int t.length)) := w
        exact call_len_str pins s σ H _ us Q I r ⟨sT t, by rw [ra_str ra], by rw [sT_len]; exact hz, by rw [sT_len]; exact res.d w rfl⟩
      | dct kvs => exact dct kvs rfl w
      | _ => exact sq w
    | od kvs => exact dct kvs rfl w
    | ld a kvs => exact dct kvs rfl w
    | _ => exact sq w
theorem decT_eq (i : Int) : sT (decT i) = (⟨(toString i : String).toList.toArray.map Char.toNat⟩ : Str) := by
  unfold sT decT
  simp
theorem cr_int : CallR X (.type "int") (rBi X.K c .toInt) := fun pins s σ H xs us Q I r ⟨Z, vs, k, zt, rl, w, res⟩ => by
  match vs, w, rl with
  | [v], w, rl =>
    obtain ⟨x, F, rfl, ra⟩ := rl.one'
    cases v with
    | p d =>
      cases d with
      | int i => exact call_int1 pins s σ H _ us Q I r (.inl ⟨i, by rw [ra_int ra], res.d w rfl⟩)
      | bl b => exact call_int1 pins s σ H _ us Q I r (.inr ⟨b, by rw [ra_bl ra], res.d (show k (.p (.int (b2i b))) from w) rfl⟩)
      | str t =>
        obtain ⟨n, e, hz, w⟩ : ∃ n : Int, PySem.intText? (sT t) = some n ∧ t.length ≤ 640 ∧ k (.p (.int n)) := w
        exact call_int_str pins s σ H _ us Q I r ⟨sT t, n, by rw [ra_str ra], e, by rw [sT_len]; exact hz, res.d w rfl⟩
      | _ => exact w.elim
    | _ => exact w.elim
theorem cr_sum (hc : X.calm = true) : CallR X (.builtin "sum") (rBi X.K c .sum) := fun pins s σ H xs us Q I r ⟨Z, vs, k, zt, rl, w, res⟩ => by
  match vs, w, rl with
  | [v], w, rl =>
    obtain ⟨ds, e, w⟩ := onO.el w
    obtain ⟨ns, en, w⟩ := onO.el w
    obtain ⟨x, F, rfl, ra⟩ := rl.one'
    obtain ⟨a, ws, rfl, h1, h2⟩ := ra.list e
    have := h2.ints en
    subst this
    exact L2.cr_sum hc pins s σ H _ us Q I r ⟨a, ns, rfl, h1, res.d w rfl⟩
theorem cr_maxl (hc : X.calm = true) : CallR X (.builtin "max") (rBi X.K c .maxl) := fun pins s σ H xs us Q I r ⟨Z, vs, k, zt, rl, w, res⟩ => by
  match vs, w, rl with
  | [v], w, rl =>
    obtain ⟨ds, e, w⟩ := onO.el w
    obtain ⟨ns, en, hl, w⟩ := onO.el w
    obtain ⟨x, F, rfl, ra⟩ := rl.one'
    obtain ⟨a, ws, rfl, h1, h2⟩ := ra.list e
    have := h2.ints en
    subst this
    exact cr_max hc pins s σ H _ us Q I r ⟨a, ns, rfl, h1, hl, fun m h1 h2 => res.d (w m h1 h2) rfl⟩
theorem cr_minl (hc : X.calm = true) : CallR X (.builtin "min") (rBi X.K c .minl) := fun pins s σ H xs us Q I r ⟨Z, vs, k, zt, rl, w, res⟩ => by
  match vs, w, rl with
  | [v], w, rl =>
    obtain ⟨ds, e, w⟩ := onO.el w
    obtain ⟨ns, en, hl, w⟩ := onO.el w
    obtain ⟨x, F, rfl, ra⟩ := rl.one'
    obtain ⟨a, ws, rfl, h1, h2⟩ := ra.list e
    have := h2.ints en
    subst this
    exact cr_min hc pins s σ H _ us Q I r ⟨a, ns, rfl, h1, hl, fun m h1 h2 => res.d (w m h1 h2) rfl⟩
/-- tuple(xs) -/
theorem cr_tuple : CallR X (.type "tuple") (rBi X.K c .tuple) := fun pins s σ H xs us Q I r ⟨Z, vs, k, zt, rl, w, res⟩ => by
  match vs, w, rl with
  | [v], w, rl =>
    obtain ⟨ds, e, w⟩ := onO.el w
    obtain ⟨x, F, rfl, ra⟩ := rl.one'
    have lst : ∀ {a : Addr} {ws : List V}, x = .ref a → SqL X.K H a ws → RDs X.K H Z ds ws → wpAny (model X.prog X.w) X.A (call (.type "tuple") us) (EP X pins σ Q) X.xe s := fun {a ws} ex hq h2 => by
      subst ex
      obtain ⟨u, rfl, rx⟩ := vals1 r
      cases rx
      obtain ⟨its, r', pl, hz⟩ := I.list hq
      have hlen := r'.length
      refine call_tuple_list pl.isList (fun h' kp => ?_) (by simp only [List.size_toArray] <;> omega)
      have I1 : Inv X pins σ H { s with heap := h' } := I.kept (t' := s.toks) kp
      exact ⟨.ref h'.objs.size, _, Inv.tnew I1 r' hz, rfl, res.tup zt w h2 (I1.hok.fresh (Nat.le_refl _)) rfl rfl⟩
    have same : ∀ {a : Addr} {ws : List V}, x = .ref a → TF H a ws → v = .p (.tup ds) → wpAny (model X.prog X.w) X.A (call (.type "tuple") us) (EP X pins σ Q) X.xe s := fun {a ws} ex hq ev => by
      subst ev ex
      exact call_tupleT pins s σ H _ us Q I r ⟨a, ws, rfl, hq.sq, res.d w ra.1⟩
    cases v with
    | p d =>
      cases d with
      | tup xs => cases e; obtain ⟨a, vs, h1, h2, h3⟩ := ra.1; exact same h1 h2 rfl
      | lst xs => cases e; obtain ⟨a, vs, h1, h2, h3⟩ := ra.1; exact lst h1 h2.sq h3
      | _ => cases e
    | ol xs => cases e; obtain ⟨a, vs, h1, _, h2, h3⟩ := ra; exact lst h1 (.of h2) h3
    | ll a xs => cases e; obtain ⟨vs, h1, _, h2, h3⟩ := ra; exact lst h1 (.of h2) h3
    | _ => cases e
theorem RK.keys {K : PySem.W.Frag} {H : Hp} {Z : ZP} {kvs : List (Am.Key × D)} : ∀ {ws : List (L2.Key × V)}, RK K H Z kvs ws → RDs K H Z (keysD kvs) (ws.map fun kv => kV kv.1) := by
  induction kvs with
  | nil => intro ws h; cases h; exact rfl
  | cons kd r ih =>
    intro ws h
    obtain ⟨k, d⟩ := kd
    obtain ⟨x, q, rfl, h1, h2⟩ := h
    refine ⟨kV (kK k), _, rfl, ?_, ih h2⟩
    cases k <;> rfl
/-- list(xs) -/
theorem cr_list (hc : X.calm = true) : CallR X (.type "list") (rBi X.K c .list) := fun pins s σ H xs us Q I r ⟨Z, vs, k, zt, rl, w, res⟩ => by
  match vs, w, rl with
  | [v], w, rl =>
    have w : match dict? v with
      | some kvs => k (.ol (keysD kvs))
      | none => onO (seq? v) fun xs => k (.ol xs) := w
    obtain ⟨x, F, rfl, ra⟩ := rl.one'
    cases ed : dict? v with
    | some kvs =>
      rw [ed] at w
      obtain ⟨a, ws, rfl, h1, h2⟩ := ra.dict ed
      exact call_listD hc pins s σ H _ us Q I r ⟨a, ws, rfl, h1, fun p hp => res.lst zt w (RK.keys h2) hp⟩
    | none =>
      rw [ed] at w
      obtain ⟨ds, e, w⟩ := onO.el w
      obtain ⟨a, ws, rfl, h1, h2⟩ := ra.seq e
      exact call_list_of pins s σ H _ us Q I r ⟨a, ws, rfl, h1.imp id TF.sq, fun p hp => res.lst zt w h2 hp⟩
/-- dict(d) -/
theorem cr_dict0 : CallR X (.type "dict") (fun xs H Q => ∃ Z vs k v kvs, Zt H Z ∧ RLr X.K H Z vs xs ∧ vs = [v] ∧ dict? v = some kvs ∧ k (.od kvs) ∧ ResP X.K H Z k Q) := fun pins s σ H xs us Q I r ⟨Z, vs, k, v, kvs, zt, rl, ev, ed, w, res⟩ => by
  subst ev
  obtain ⟨x, F, rfl, ra⟩ := rl.one'
  obtain ⟨a, ws, rfl, h1, h2⟩ := ra.dict ed
  exact call_dictD pins s σ H _ us Q I r ⟨a, ws, rfl, h1, fun p hp => res.dct zt w h2 hp⟩
theorem RDs.bls {K : PySem.W.Frag} {H : Hp} {Z : ZP} : ∀ {ds : List D} {ws : List V} {bs : List Bool}, RDs K H Z ds ws → bls? ds = some bs → ws = bs.map V.bl
  | [], _, _, h, e => by cases e; cases h; rfl
  | d :: r, _, bs, ⟨x, q, e1, h3, h4⟩, e => by
    subst e1
    cases d with
    | bl b =>
      simp only [bls?, Option.map_eq_some_iff] at e
      obtain ⟨l, e1, rfl⟩ := e
      cases h3
      rw [RDs.bls h4 e1]
      rfl
    | _ => cases e
theorem cr_all (hc : X.calm = true) : CallR X (.builtin "all") (rBi X.K c .all) := fun pins s σ H xs us Q I r ⟨Z, vs, k, zt, rl, w, res⟩ => by
  match vs, w, rl with
  | [v], w, rl =>
    obtain ⟨ds, e, w⟩ := onO.el w
    obtain ⟨ns, en, w⟩ := onO.el w
    obtain ⟨x, F, rfl, ra⟩ := rl.one'
    obtain ⟨a, ws, rfl, h1, h2⟩ := ra.list e
    have := h2.bls en
    subst this
    exact L2.cr_all hc pins s σ H _ us Q I r ⟨a, ns, rfl, h1, res.d w rfl⟩
def sI : List Int → List Int
  | [] => []
  | x :: r => ins x (sI r)
where ins (x : Int) : List Int → List Int
  | [] => [x]
  | y :: r => if y < x then y :: ins x r else x :: y :: r
theorem sI_ins_perm (x : Int) : ∀ l : List Int, (sI.ins x l).Perm (x :: l)
  | [] => List.Perm.refl _
  | y :: r => by
    unfold sI.ins
    split
    · exact (List.Perm.cons y (sI_ins_perm x r)).trans (List.Perm.swap x y r)
    · exact List.Perm.refl _
theorem sI_perm : ∀ l : List Int, (sI l).Perm l
  | [] => List.Perm.refl _
  | x :: r => (sI_ins_perm x (sI r)).trans (List.Perm.cons x (sI_perm r))
theorem sI_ins_sorted (x : Int) : ∀ l : List Int, l.Pairwise (· ≤ ·) → (sI.ins x l).Pairwise (· ≤ ·)
  | [], _ => List.pairwise_singleton _ _
  | y :: r, h => by
    unfold sI.ins
    obtain ⟨h1, h2⟩ := List.pairwise_cons.mp h
    split
    · rename_i hlt
      refine List.pairwise_cons.mpr ⟨fun z hz => ?_, sI_ins_sorted x r h2⟩
      rcases List.mem_cons.mp ((sI_ins_perm x r).mem_iff.mp hz) with e | hz
      · omega
      · exact h1 z hz
    · rename_i hlt
      refine List.pairwise_cons.mpr ⟨fun z hz => ?_, h⟩
      rcases List.mem_cons.mp hz with e | hz
      · omega
      · have := h1 z hz
        omega
theorem sI_sorted : ∀ l : List Int, (sI l).Pairwise (· ≤ ·)
  | [] => List.Pairwise.nil
  | x :: r => sI_ins_sorted x _ (sI_sorted r)
theorem int_uniq {l m : List Int} (p : l.Perm m) (hl : l.Pairwise (· ≤ ·)) (hm : m.Pairwise (· ≤ ·)) : l = m :=
  List.Perm.eq_of_pairwise (le := (· ≤ ·)) (fun a b _ _ h1 h2 => Int.le_antisymm h1 h2) hl hm p
theorem sortD_ints : ∀ ns : List Int, sortD (ns.map .int) = (sI ns).map .int
  | [] => rfl
  | x :: r => by
    have hb : ∀ l : List Int, sortD.insB (.int x) (l.map .int) = (sI.ins x l).map .int := fun l => by
      induction l with
      | nil => rfl
      | cons y l ih =>
        simp only [List.map_cons]
        unfold sortD.insB sI.ins
        have : ltB (.int y) (.int x) = decide (y < x) := rfl
        rw [this]
        by_cases h : y < x
        · simp only [h, decide_true, if_true, List.map_cons, ih]
        · simp only [h, decide_false, if_false, List.map_cons, Bool.false_eq_true]
    show sortD.insB (.int x) (sortD (r.map .int)) = _
    rw [sortD_ints r, hb]
    rfl
theorem ints_map : ∀ {xs : List D}, xs.all isInt = true → ∃ ns : List Int, xs = ns.map .int
  | [], _ => ⟨[], rfl⟩
  | d :: r, h => by
    simp only [List.all_cons, Bool.and_eq_true] at h
    obtain ⟨ns, e⟩ := ints_map h.2
    cases d with
    | int i => exact ⟨i :: ns, by rw [e]; rfl⟩
    | _ => cases h.1
theorem RDs.int {K : PySem.W.Frag} {H : Hp} {Z : ZP} : ∀ (ns : List Int), RDs K H Z (ns.map .int) (ns.map V.int)
  | [] => rfl
  | i :: r => ⟨.int i, r.map V.int, rfl, rfl, RDs.int r⟩
theorem RDs.int' {K : PySem.W.Frag} {H : Hp} {Z : ZP} {ns : List Int} {ws : List V} (h : RDs K H Z (ns.map .int) ws) : ws = ns.map V.int := by
  induction ns generalizing ws with
  | nil => exact h
  | cons i r ih =>
    obtain ⟨x, q, rfl, h1, h2⟩ := h
    cases h1
    rw [ih h2]
    rfl
theorem cr_sorted : CallR X (.builtin "sorted") (rBi X.K c .sorted) := fun pins s σ H xs us Q I r ⟨Z, vs, k, zt, rl, w, res⟩ => by
  match vs, w, rl with
  | [v], w, rl =>
    obtain ⟨ds, e, hs, w⟩ := onO.el w
    obtain ⟨x, F, rfl, ra⟩ := rl.one'
    obtain ⟨a, ws, rfl, h1, h2⟩ := ra.list e
    obtain ⟨ns, rfl⟩ := ints_map hs
    obtain rfl := h2.int'
    refine cr_sortedI pins s σ H _ us Q I r ⟨a, ns, rfl, h1, fun ns' p hp hs' hn => ?_⟩
    obtain rfl : ns' = sI ns := int_uniq (hp.trans (sI_perm ns).symm) hs' (sI_sorted ns)
    rw [sortD_ints] at w
    exact res.lst zt w (RDs.int _) hn
end
section
variable {X : Cx} {rx : RX} {c : Am.Ctx} {W : WX} {a b d e : Expr} {rest es : List Expr} {pos : Pos} {ma mb md : ME} {ms : MEs}
def Ty.nm : Ty → String
  | .int => "int" | .bool => "bool" | .str => "str" | .tuple => "tuple" | .list => "list" | .dict => "dict" | .non => "NoneType"
theorem RA.ty {K : PySem.W.Frag} {H : Hp} {Z : ZP} {v : AV} {x : V} {F : List Addr} {t : Ty} (h : RA K H Z v x F) (e : tyD v = some t) : TyX K H x (.type t.nm) := by
  have lst : ∀ {a : Addr} {ds : List V}, ZL K H Z a ds → TyX K H (.ref a) (.type "list") := fun {a ds} q => by
    rcases q with ⟨_, q | ⟨o, q⟩⟩ | ⟨o, its, n, h1, h2, _⟩
    · exact .base (.lst q)
    · exact .base (.frz q)
    · exact .kList h1 h2
  cases v with
  | p d =>
    cases d with
    | non => cases e; cases h.1; exact .base .non
    | bl b => cases e; cases h.1; exact .base (.bl _)
    | int b => cases e; cases h.1; exact .base (.int _)
    | str b => cases e; cases h.1; exact .base (.str _)
    | tup b => cases e; obtain ⟨a, vs, rfl, ⟨o, q, _⟩, _⟩ := h.1; exact .fTuple q
    | lst b => cases e; obtain ⟨a, vs, rfl, q, _⟩ := h.1; exact lst q
    | dct b =>
      cases e
      obtain ⟨a, ws, rfl, _, q | ⟨o, q⟩, _⟩ := h.1
      · exact .base (.dK q)
      · exact .fDict q
    | exc _ _ => cases e
    | exs _ _ => cases e
  | ol ds => cases e; obtain ⟨a, vs, rfl, _, q, _⟩ := h; exact .base (.lst q)
  | ll a ds => cases e; obtain ⟨vs, rfl, _, q, _⟩ := h; exact .base (.lst q)
  | od ds => cases e; obtain ⟨a, vs, rfl, _, q, _⟩ := h; exact .base (.dK q)
  | ld a ds => cases e; obtain ⟨vs, o, rfl, _, q, _⟩ := h; exact .fDict q
  | oi _ _ => cases e
/-- does the kit's own reckoning of the classes agree -/
theorem kit_ty (K : PySem.W.Frag) : ∀ t u : Ty, PySem.W.kitOne K (.type t.nm) (.type u.nm) = some (tySub t u) := by
  intro t u
  cases t <;> cases u <;> rfl
theorem s_isi {x tn : Str} {p p2 : Pos} (u : Ty) (ha : PE X e (tO X.K rx c W ma)) (hm : X.mg "isinstance" = none) (hmt : X.mg tn = none) (hx : x = "isinstance" := by rfl) (hvt : bootBuiltins tn = some (.type u.nm) := by rfl) (hg : Gl X "isinstance" := by rfl) (hgt : Gl X tn := by rfl)
    (hn : tn ≠ "__name__" := by decide) (hdb : (tn == ("__debug__" : Str)) = false := by decide) (h1 : okO ma = true := by rfl)
    (he : starEach [e, .Name tn p2] X.env = (false, eval e X.env) :: starEach [.Name tn p2] X.env := by rfl) (hs2 : starEach [.Name tn p2] X.env = (false, eval (.Name tn p2) X.env) :: starEach [] X.env := by rfl) (hpl : (backTo pos (starEach [.Name tn p2] X.env)).any (·.1) = false := by rfl) :
    PE X (.Call (.Name x p) [e, .Name tn p2] [] pos) (tE X.K rx c W (.bi (.isinst [u] []) (.cons ma .nil))) := by
  subst hx
  refine PE.weak (pe_callB call_isi hg hm (by rfl) (pa_cons ha (pa_cons (pe_bltn hgt hmt hvt (v := .ty u.nm) rfl hn hdb) pa_nil hs2) he) (by decide) (by decide) he hpl) fun σ H Q h => ?_
  obtain ⟨α, Z, F, P, X', I, w⟩ := tE.el h
  have w : pre ma (fun α k => wpE c ma α k X') α fun v α1 => Am.fetch ma v α1 fun y => biQ c (.isinst [u] []) [y] fun v => P v α1 := w
  refine I.opd h1 w fun v α1 H1 Z1 F1 x Fx w1 I1 s1 g1 o1 => ?_
  obtain ⟨v', G, r1, w2⟩ := o1.fetch I1.rs w1
  obtain ⟨t, et, w3⟩ : ∃ t, tyD v' = some t ∧ P (.p (.bl (tySub t u))) α1 := by
    have w4 : onO (tyD v') fun t => P (.p (.bl (anyT t [u]))) α1 := by
      cases v' with
      | p d =>
        cases d with
        | exc _ _ => exact (show False from w2).elim
        | exs _ _ => exact (show False from w2).elim
        | _ => exact w2
      | _ => exact w2
    obtain ⟨t, et, w5⟩ := onO.el w4
    refine ⟨t, et, ?_⟩
    have : anyT t [u] = tySub t u := by cases t <;> cases u <;> rfl
    rw [this] at w5
    exact w5
  exact ⟨x, .ty u.nm, _, _, _, rfl, .ty _, r1.ty et, kit_ty X.K t u, I1.now w3 rfl⟩
end
end Am

set_option maxHeartbeats 4000000
namespace Am
open PySem PySem.Spec PyProof.Rows L2
variable [CN]
/-- the value is of that built-in type -/
def tyA (K : PySem.W.Frag) (T : String) (x : V) (H : Hp) : Prop := match x with
  | .str _ => T = "str"
  | .ref p => (T = "list" ∧ ∃ xs, SqL K H p xs) ∨ (T = "tuple" ∧ ∃ vs, TF H p vs) ∨ (T = "dict" ∧ ∃ kvs, Rd H p (.dK kvs))
  | _ => False
section
variable {X : Cx}
theorem tyA_is {pins : List (Addr × Obj)} {σ : L2.St} {H : Hp} {s : Shared} {T : String} {x : V} {v : Value} (I : Inv X pins σ H s) (r : RelV x v) (ty : tyA X.K T x H) :
    s.TypeIs v T ∧ ∀ a, v = .ref a → ∃ ob, s.heap.get? a = some ob ∧ ob.dict = none := by
  cases x with
  | str z =>
    obtain ⟨t, rfl⟩ := r
    cases (show T = "str" from ty)
    exact ⟨typeIs_str s z t, fun _ e => nomatch e⟩
  | ref p =>
    cases r
    rcases ty with ⟨rfl, xs, hq⟩ | ⟨rfl, vs, o, hk, hd, hc⟩ | ⟨rfl, kvs, hk⟩
    · obtain ⟨its, _, pl, _⟩ := I.list hq
      refine ⟨pl.isList.typeIs, fun a e => ?_⟩
      cases e
      obtain ⟨o, n, e, c, hd, _⟩ := pl
      exact ⟨o, e, hd⟩
    · obtain ⟨e, _⟩ := I.hok p _ hk
      refine ⟨⟨o, e, hc⟩, fun a e2 => ?_⟩
      cases e2
      exact ⟨o, e, hd⟩
    · obtain ⟨_, _, _, _, o, _, _, e, ex, _⟩ := hk.ok I.hok
      refine ⟨⟨o, e, ex.1⟩, fun a e2 => ?_⟩
      cases e2
      exact ⟨o, e, ex.2.1⟩
  | _ => exact False.elim ty
/-- a method of a built-in type -/
structure MtK (X : Cx) (T : String) (name : Str) (id : String) (r : V → List V → Hp → VK → Prop) : Prop where
  pa : PlainAttrs T
  slot : Slot T name id
  hty : typeOf (.builtin id) = pure (.type "method_descriptor")
  hm : MtR X id r
def tBX (X : Cx) (name : Str) (to : TE) (t : TA) : TE := fun σ H Q => to σ H fun x H1 => ∃ T id r, MtK X T name id r ∧ tyA X.K T x H1 ∧ t σ H1 fun xs H2 => r x xs H2 Q
variable {o e : Expr} {es : List Expr} {to : TE} {t : TA} {name : Str} {apos cpos : Pos}
theorem pe_bx0 (ho : PE X o to) (hbase : attributeBase o name X.env (eval o X.env) = eval o X.env := by rfl) (hline : (apos.endLine == cpos.line) = true := by rfl) : PE X (.Call (.Attribute o name apos) [] [] cpos) (tBX X name to tNil) := by
  refine ⟨fun pins s σ H Q I h => ?_⟩
  refine wpAny_Call_method0_late hbase hline (thn (ho.run pins s σ H _ I h) fun v s1 ⟨x, H1, I1, r1, T, id, r, mk, ty, q1⟩ => ?_)
  obtain ⟨h1, h2⟩ := tyA_is I1 r1 ty
  exact ⟨T, id, mk.pa, mk.slot, mk.hty, h1, h2, Calls.callWith_builtin rfl (PySem.evalArgs_none (mk.hm pins s1 σ H1 x [] v [] Q I1 r1 .nil q1))⟩
theorem pe_bx (ho : PE X o to) (ha : PA X (e :: es) t)
    (hbase : attributeBase o name X.env (eval o X.env) = eval o X.env := by rfl)
    (hfew : ((backTo cpos (starEach (e :: es) X.env)).all (fun x => !x.1) && (backToKw cpos (keywordEach [] X.env)).all (fun x => x.1.isSome)
      && decide ((e :: es).length + ([] : List Keyword).length + (if ([] : List Keyword).isEmpty then 0 else 1) < 30)) = true := by rfl)
    (hline : (apos.endLine == cpos.line) = true := by rfl) (hs : starEach (e :: es) X.env = (false, eval e X.env) :: starEach es X.env := by rfl) (hplain : (backTo cpos (starEach es X.env)).any (·.1) = false := by rfl) :
    PE X (.Call (.Attribute o name apos) (e :: es) [] cpos) (tBX X name to t) := by
  refine ⟨fun pins s σ H Q I h => ?_⟩
  refine wpAny_Call_method_late hbase hfew hline rfl (thn (ho.run pins s σ H _ I h) fun v s1 ⟨x, H1, I1, r1, T, id, r, mk, ty, q1⟩ => ?_)
  obtain ⟨h1, h2⟩ := tyA_is I1 r1 ty
  refine ⟨T, id, mk.pa, mk.slot, mk.hty, h1, h2, ?_⟩
  have hA := ha.run cpos pins s1 σ H1 _ I1 q1
  rw [hs] at hA ⊢
  refine Calls.callWith_builtin (by show (false || (backTo cpos (starEach es X.env)).any (·.1)) = false; rw [hplain] <;> rfl) (Calls.evalArgs_plain ?_)
  exact thn hA fun us s2 ⟨vs, H2, I2, r2, q2⟩ => mk.hm pins s2 σ H2 x vs v us Q I2 r1 r2 q2
end
section
variable {K : PySem.W.Frag} {rx : RX} {c : Am.Ctx} {W : WX} {H H' H1 H2 : Hp} {Z Z' Z1 Z2 : ZP} {F F' F1 F2 Fx Fy Fr : List Addr} {α α1 α2 : Sl} {σ : L2.St} {P : VP} {X' : XP} {Q : VK}
theorem setS_setS : ∀ (α : Sl) (i : Nat) (a b : Option AV), setS (setS α i a) i b = setS α i b
  | [], _, _, _ => rfl
  | _ :: _, 0, _, _ => rfl
  | x :: r, i + 1, a, b => congrArg (x :: ·) (setS_setS r i a b)
theorem setS_len : ∀ (α : Sl) (i : Nat) (a : Option AV), (setS α i a).length = α.length
  | [], _, _ => rfl
  | _ :: _, 0, _ => rfl
  | x :: r, i + 1, a => congrArg (· + 1) (setS_len r i a)
theorem set_self {σ : L2.St} {i : Nat} {x : V} (hi : σ[i]? = some (some x)) : σ.set i (some x) = σ := by
  obtain ⟨h1, h2⟩ := List.getElem?_eq_some_iff.mp hi
  exact List.ext_getElem? fun j => by
    by_cases hj : i = j
    · subst hj
      rw [List.getElem?_set_self h1, hi]
    · rw [List.getElem?_set_ne hj]
/-- the object in a name is changed -/
theorem RS.write {i : Nat} {l : Addr} {o : HO} {w : AV} (rs : RS K H Z α σ F) (g : G3 H Z F) (hσ : σ[i]? = some (some (.ref l))) (p : F.Perm ([l] ++ Fr)) (gone : RS K H Z (setS α i none) σ Fr) (ho : Own (some o)) (hw : RA K (upd H l o) Z w (.ref l) [l]) :
    ∃ F', Step H Z F (upd H l o) Z F' ∧ G3 (upd H l o) Z F' ∧ RS K (upd H l o) Z (setS α i (some w)) σ F' := by
  have g1 := g.perm p
  have gl : G3 H Z [l] := g1.left
  have st : Step H Z [l] (upd H l o) Z [l] := .wr (by simp)
  have rs1 : RS K (upd H l o) Z (setS α i none) σ Fr := gone.frame gl st g1.dis
  have hlt : i < (setS α i none).length := by rw [setS_len, rs.len]; exact (List.getElem?_eq_some_iff.mp hσ).1
  obtain ⟨Fi, Fr2, p2, pu, _⟩ := rs1.put hlt
  have rs2 := pu w (.ref l) [l] hw
  rw [setS_setS, set_self hσ] at rs2
  have sb := st.beside g1
  have gb := G3.beside g1 st (G3.wr ho gl)
  have pp : ([l] ++ Fr).Perm (([l] ++ Fr2) ++ Fi) := (List.Perm.append_left [l] (p2.trans List.perm_append_comm)).trans (by rw [List.append_assoc])
  exact ⟨[l] ++ Fr2, ((sb.permL p.symm).permR pp).lessR fun _ h => List.mem_append_left _ h, (gb.perm pp).left, rs2⟩
theorem RDs.wr {l : Addr} {o : HO} {ds : List D} {vs : List V} (g : G3 H Z [l]) (h : RDs K H Z ds vs) : RDs K (upd H l o) Z ds vs := RDs.keep ((Step.wr (F := [l]) (by simp)).keep g) ds h
theorem RK.wr {l : Addr} {o : HO} {ds : List (Am.Key × D)} {vs : List (L2.Key × V)} (g : G3 H Z [l]) (h : RK K H Z ds vs) : RK K (upd H l o) Z ds vs := RK.keep ((Step.wr (F := [l]) (by simp)).keep g) ds h
/-- a list in a name -/
theorem In.lst (I : In K rx W σ H Z F α P X' Q) {i : Nat} {ds : List D} (e : getS α i = some (.ol ds)) : ∃ l vs, σ[i]? = some (some (.ref l)) ∧ H l = some (.lst vs) ∧ RDs K H Z ds vs ∧
    ∀ ds' vs', RDs K H Z ds' vs' → ∃ F', Step H Z F (upd H l (.lst vs')) Z F' ∧ In K rx W σ (upd H l (.lst vs')) Z F' (setS α i (some (.ol ds'))) P X' Q := by
  obtain ⟨x, Fi, Fr, h1, ⟨l, vs, rfl, rfl, hl, r⟩, p, _, gone⟩ := I.rs.get e
  refine ⟨l, vs, h1, hl, r, fun ds' vs' r' => ?_⟩
  have gl : G3 H Z [l] := (I.g.perm p).left
  obtain ⟨F', s, g, rs⟩ := I.rs.write (w := .ol ds') I.g h1 p gone (o := .lst vs') trivial ⟨l, vs', rfl, rfl, upd_same, r'.wr gl⟩
  exact ⟨F', s, I.next (Fx := []) (by rw [List.append_nil]; exact s) (g30 g) rs⟩
theorem In.dct (I : In K rx W σ H Z F α P X' Q) {i : Nat} {ds : List (Am.Key × D)} (e : getS α i = some (.od ds)) : ∃ l vs, σ[i]? = some (some (.ref l)) ∧ H l = some (.dK vs) ∧ RK K H Z ds vs ∧
    ∀ ds' vs', RK K H Z ds' vs' → ∃ F', Step H Z F (upd H l (.dK vs')) Z F' ∧ In K rx W σ (upd H l (.dK vs')) Z F' (setS α i (some (.od ds'))) P X' Q := by
  obtain ⟨x, Fi, Fr, h1, ⟨l, vs, rfl, rfl, hl, r⟩, p, _, gone⟩ := I.rs.get e
  refine ⟨l, vs, h1, hl, r, fun ds' vs' r' => ?_⟩
  have gl : G3 H Z [l] := (I.g.perm p).left
  obtain ⟨F', s, g, rs⟩ := I.rs.write (w := .od ds') I.g h1 p gone (o := .dK vs') trivial ⟨l, vs', rfl, rfl, upd_same, r'.wr gl⟩
  exact ⟨F', s, I.next (Fx := []) (by rw [List.append_nil]; exact s) (g30 g) rs⟩
end
section
variable {X : Cx} {rx : RX} {c : Am.Ctx} {W : WX} {a b d e : Expr} {rest es : List Expr} {pos : Pos} {ma mb md : ME} {ms : MEs}
def Mu.nm : Mu → Str
  | .append => "append" | .pop => "pop" | .popAt => "pop" | .insert => "insert" | .extend => "extend" | .clear => "clear" | .dpop => "pop"
theorem dp_ok {X : Cx} : MtR X "dict.pop" (fun x vs H Q => ∃ a kvs k v, x = .ref a ∧ vs = [kV k] ∧ H a = some (.dK kvs) ∧ valV kvs k = some v ∧ Q v (upd H a (.dK (dropK kvs k)))) := by
  intro pins s σ H x vs v us Q I rx rv h
  obtain ⟨a, kvs, k, w, rfl, rfl, e, l, q⟩ := h
  cases rx
  obtain ⟨u, rfl, ru⟩ := vals1 rv
  exact d_pop I e ru l (.inl rfl) fun w' s3 I3 rw' => ⟨w, _, I3, rw', q⟩
theorem RK.del {K : PySem.W.Frag} {H : Hp} {Z : ZP} {kvs : List (Am.Key × D)} : ∀ {ws : List (L2.Key × V)} (k : Am.Key), RK K H Z kvs ws → RK K H Z (delK kvs k) (dropK ws (kK k)) := by
  induction kvs with
  | nil => intro ws k h; cases h; exact rfl
  | cons kd r ih =>
    intro ws k h
    obtain ⟨j, d⟩ := kd
    obtain ⟨x, q, rfl, h1, h2⟩ := h
    have hq := ih k h2
    unfold delK dropK at hq ⊢
    by_cases e : j = k
    · subst e
      simp only [List.filter_cons, ne_eq, not_true_eq_false, decide_false, Bool.false_eq_true, if_false]
      exact hq
    · have e2 : kK j ≠ kK k := fun z => e (kK_inj z)
      simp only [List.filter_cons, ne_eq, e, e2, not_false_eq_true, decide_true, if_true]
      exact ⟨x, _, rfl, h1, hq⟩
theorem RDs.ins {K : PySem.W.Frag} {H : Hp} {Z : ZP} : ∀ {ds : List D} {vs : List V} {d : D} {x : V} (i : Nat), RDs K H Z ds vs → RD K H Z d x → i ≤ ds.length → RDs K H Z (ds.insertIdx i d) (vs.take i ++ [x] ++ vs.drop i)
  | ds, vs, d, x, 0, h, hd, _ => by
    simp only [List.insertIdx_zero, List.take_zero, List.nil_append, List.drop_zero]
    exact ⟨x, vs, rfl, hd, h⟩
  | y :: r, _, d, x, i + 1, ⟨z, q, e, h1, h2⟩, hd, hi => by
    subst e
    rw [List.insertIdx_succ_cons]
    exact ⟨z, _, rfl, h1, RDs.ins i h2 hd (by simpa using hi)⟩
theorem mt_popAt' : MtR X "list.pop" (fun x vs H Q => ∃ l xs i y, x = .ref l ∧ vs = [.int i] ∧ H l = some (.lst xs) ∧ 0 ≤ i ∧ xs[i.toNat]? = some y ∧ Q y (upd H l (.lst (xs.eraseIdx i.toNat)))) := by
  intro pins s σ H x xs v us Q I rx rv h
  obtain ⟨l, ys, i, y, rfl, rfl, hl, h0, hy, q⟩ := h
  obtain ⟨hz, _⟩ := I.hok l _ hl
  have hlt := (List.getElem?_eq_some_iff.mp hy).1
  rw [sizeLine_eq] at hz
  refine mt_popAt pins s σ H _ _ v us Q I rx rv ⟨l, ys, i, i.toNat, y, rfl, rfl, hl, by omega, by omega, ?_, hy, q⟩
  unfold seqIndex?
  have e : (i.toNat : Int) = i := Int.toNat_of_nonneg h0
  have h2 : i < (ys.length : Int) := by omega
  simp only [show ¬ i < 0 by omega, if_false]
  rw [if_pos (by simp only [Bool.and_eq_true, decide_eq_true_eq]; omega)]
theorem mt_insert' : MtR X "list.insert" (fun x vs H Q => ∃ (l : Addr) (xs : List V) (i : Int) (y : V), x = .ref l ∧ vs = [.int i, y] ∧ H l = some (.lst xs) ∧ xs.length < sizeLine ∧ 0 ≤ i ∧ i ≤ xs.length ∧
    Q .non (upd H l (.lst (xs.take i.toNat ++ [y] ++ xs.drop i.toNat)))) := by
  intro pins s σ H x xs v us Q I rx rv h
  obtain ⟨l, ys, i, y, rfl, rfl, hl, hz, h0, h1, q⟩ := h
  have hz' := hz
  rw [sizeLine_eq] at hz'
  exact mt_insert pins s σ H _ _ v us Q I rx rv ⟨l, ys, i, y, rfl, rfl, hl, hz, h0, by omega, q⟩
theorem mut_run {m : Mu} {i : Nat} {σ : L2.St} {H : Hp} {Q : VK} (hne : m ≠ .extend) (h : tE X.K rx c W (.mut m (.v i) ms) σ H Q) : tBX X m.nm (tVar i) (tEs X.K rx c W ms) σ H Q := by
  obtain ⟨α, Z, F, P, X', I, w⟩ := tE.el h
  have w : onO (getP (.v i) α) fun o => onMu m (kindA o) (wpEs c ms α (fun vs α1 => onO (getP (.v i) α1) fun o1 => onSame (kindA o) (kindA o1) (mutQ m o1 vs fun v o' => P v (setP (.v i) α1 (some o')))) X') := w
  obtain ⟨o, eo, w⟩ := onO.el w
  obtain ⟨x, Fi, Fr, h1, r0, _⟩ := I.rs.get eo
  refine ⟨x, h1, ?_⟩
  -- a list's method
  have lst : ∀ {id : String} {r : V → List V → Hp → VK → Prop}, kindA o = .l → MtK X "list" m.nm id r → (wpEs c ms α (fun vs α1 => onO (getP (.v i) α1) fun o1 => onSame (kindA o) (kindA o1) (mutQ m o1 vs fun v o' => P v (setP (.v i) α1 (some o')))) X') →
      (∀ ds vs l ws xs H1 (k : AV → AV → Prop) (Z1 : ZP) (Q' : VK), mutQ m (.ol ds) vs k → H1 l = some (.lst ws) → RDs X.K H1 Z1 ds ws → (∀ es, toDs vs = some es → RDs X.K H1 Z1 es xs) → xs.length = vs.length →
        (∀ d es x' ws', k (.p d) (.ol es) → RDs X.K H1 Z1 es ws' → RD X.K H1 Z1 d x' → Q' x' (upd H1 l (.lst ws'))) → r (.ref l) xs H1 Q') →
      ∃ T id r, MtK X T m.nm id r ∧ tyA X.K T x H ∧ tEs X.K rx c W ms σ H fun xs H2 => r x xs H2 Q := fun {id r} hk mk w hr => by
    have ty : ∃ ds, list? o = some ds := by
      cases o with
      | p d => cases d <;> first | exact ⟨_, rfl⟩ | cases hk
      | ol ds => exact ⟨_, rfl⟩
      | ll a ds => exact ⟨_, rfl⟩
      | od _ => cases hk
      | ld _ _ => cases hk
      | oi _ _ => cases hk
    obtain ⟨ds, el⟩ := ty
    obtain ⟨l0, vs0, rfl, q0, _⟩ := r0.list el
    refine ⟨"list", id, r, mk, .inl ⟨rfl, vs0, q0⟩, ?_⟩
    refine I.vals w fun vs α1 H1 Z1 F1 xs Fx w1 I1 s1 g1 rl => ?_
    obtain ⟨o1, eo1, w2⟩ := onO.el w1
    rw [hk] at w2
    have I2 := I.frz s1 g1 I1.rs
    -- only an own list is changed
    have ol : ∃ ds, o1 = .ol ds ∧ mutQ m (.ol ds) vs fun v o' => P v (setP (.v i) α1 (some o')) := by
      cases o1 with
      | ol ds => exact ⟨ds, rfl, w2⟩
      | od _ => exact w2.elim
      | ld _ _ => exact w2.elim
      | oi _ _ => exact w2.elim
      | ll a ds => cases m <;> exact w2.elim
      | p d => cases d <;> first | exact w2.elim | (cases m <;> exact w2.elim)
    obtain ⟨ds1, rfl, w3⟩ := ol
    obtain ⟨l, ws, hσ, hl, rr, wr⟩ := I2.lst eo1
    rw [h1] at hσ
    cases hσ
    refine hr ds1 vs l0 ws xs H1 _ _ Q w3 hl rr (fun es e => rl.tds e) rl.len.symm fun d es x' ws' hp r1 r2 => ?_
    obtain ⟨F', sw, I3⟩ := wr es ws' r1
    exact I3.now hp (RD.keep (sw.keep I2.g) d r2)
  cases ek : kindA o with
  | l =>
    cases m with
    | extend => exact (hne rfl).elim
    | dpop => rw [ek] at w; exact w.elim
    | append =>
      refine lst ek ⟨PySem.F.plainAttrs_list, PySem.F.slot_list_append, PySem.F.type_list_append, mt_append⟩ (by rw [ek] at w ⊢; exact w) fun ds vs l ws xs H1 k Z1 Q' wq hl rr ra ln q => ?_
      match vs, wq, ln with
      | [v], wq, ln =>
        obtain ⟨d, ed, hz, wq⟩ := onO.el wq
        obtain ⟨x', q2, e, rd, e2⟩ := ra [d] (by show (match toD v, toDs [] with | some d, some q => some (d :: q) | _, _ => none) = _; rw [ed])
        cases e2
        exact ⟨l, ws, x', rfl, e, hl, by rw [← rr.len]; exact hz, q .non (ds ++ [d]) .non (ws ++ [x']) wq (rr.app ⟨x', [], rfl, rd, rfl⟩) rfl⟩
    | pop =>
      refine lst ek ⟨PySem.F.plainAttrs_list, PySem.F.slot_list_pop, PySem.F.type_list_pop, mt_pop⟩ (by rw [ek] at w ⊢; exact w) fun ds vs l ws xs H1 k Z1 Q' wq hl rr ra ln q => ?_
      match vs, wq, ln with
      | [], wq, ln =>
        obtain ⟨d, ed, wq⟩ := onO.el wq
        rw [getL_eq] at ed
        obtain ⟨x', e1, rd⟩ := rr.at ed
        rw [rr.len] at e1
        exact ⟨l, ws, x', rfl, List.eq_nil_of_length_eq_zero ln, hl, e1, q d _ x' _ wq rr.dropLast rd⟩
    | popAt =>
      refine lst ek ⟨PySem.F.plainAttrs_list, PySem.F.slot_list_pop, PySem.F.type_list_pop, mt_popAt'⟩ (by rw [ek] at w ⊢; exact w) fun ds vs l ws xs H1 k Z1 Q' wq hl rr ra ln q => ?_
      match vs, wq, ln with
      | [v], wq, ln =>
        obtain ⟨j, rfl, wq⟩ := onI.el wq
        cases j with
        | negSucc n => exact wq.elim
        | ofNat n =>
        obtain ⟨d, ed, wq⟩ := onO.el wq
        rw [getL_eq] at ed
        obtain ⟨x', e1, rd⟩ := rr.at ed
        obtain ⟨y, q2, e, rd2, e2⟩ := ra [.int (Int.ofNat n)] rfl
        cases e2
        cases rd2
        exact ⟨l, ws, Int.ofNat n, x', rfl, e, hl, Int.natCast_nonneg n, e1, q d _ x' _ wq (rr.erase _) rd⟩
    | insert =>
      refine lst ek ⟨PySem.F.plainAttrs_list, PySem.F.slot_list_insert, PySem.F.type_list_insert, mt_insert'⟩ (by rw [ek] at w ⊢; exact w) fun ds vs l ws xs H1 k Z1 Q' wq hl rr ra ln q => ?_
      match vs, wq, ln with
      | [v, u], wq, ln =>
        obtain ⟨j, rfl, wq⟩ := onI.el wq
        obtain ⟨d, ed, h0, h1', hz, wq⟩ := onO.el wq
        obtain ⟨y, q2, e, rd2, z, q3, e2, rd3, e3⟩ := ra [.int j, d] (by show (match toD (.p (.int j)), (match toD u, toDs [] with | some d, some q => some (d :: q) | _, _ => none) with | some d, some q => some (d :: q) | _, _ => none) = _; rw [ed])
        cases e3
        subst e2
        cases rd2
        exact ⟨l, ws, j, z, rfl, e, hl, by rw [← rr.len]; exact hz, h0, by rw [← rr.len]; exact h1', q .non _ .non _ wq (RDs.ins _ rr rd3 (by omega)) rfl⟩
    | clear =>
      refine lst ek ⟨PySem.F.plainAttrs_list, PySem.F.slot_list_clear, PySem.F.type_list_clear, mt_clear⟩ (by rw [ek] at w ⊢; exact w) fun ds vs l ws xs H1 k Z1 Q' wq hl rr ra ln q => ?_
      match vs, wq, ln with
      | [], wq, ln => exact ⟨l, ws, rfl, List.eq_nil_of_length_eq_zero ln, hl, q .non [] .non [] wq rfl rfl⟩
  | d =>
    have dct : ∀ {id : String} {r : V → List V → Hp → VK → Prop}, MtK X "dict" m.nm id r →
      (∀ ds vs l ws xs H1 (k : AV → AV → Prop) (Z1 : ZP) (Q' : VK), mutQ m (.od ds) vs k → H1 l = some (.dK ws) → RK X.K H1 Z1 ds ws → (∀ es, toDs vs = some es → RDs X.K H1 Z1 es xs) → xs.length = vs.length →
        (∀ d es x' ws', k (.p d) (.od es) → RK X.K H1 Z1 es ws' → RD X.K H1 Z1 d x' → Q' x' (upd H1 l (.dK ws'))) → r (.ref l) xs H1 Q') →
      (wpEs c ms α (fun vs α1 => onO (getP (.v i) α1) fun o1 => onSame (kindA o) (kindA o1) (mutQ m o1 vs fun v o' => P v (setP (.v i) α1 (some o')))) X') →
      ∃ T id r, MtK X T m.nm id r ∧ tyA X.K T x H ∧ tEs X.K rx c W ms σ H fun xs H2 => r x xs H2 Q := fun {id r} mk hr w => by
      have ty : ∃ ds, dict? o = some ds := by
        cases o with
        | p d => cases d <;> first | exact ⟨_, rfl⟩ | cases ek
        | od ds => exact ⟨_, rfl⟩
        | ld a ds => exact ⟨_, rfl⟩
        | ol _ => cases ek
        | ll _ _ => cases ek
        | oi _ _ => cases ek
      obtain ⟨ds, el⟩ := ty
      obtain ⟨l0, vs0, rfl, q0, _⟩ := r0.dict el
      refine ⟨"dict", id, r, mk, .inr (.inr ⟨rfl, vs0, q0⟩), ?_⟩
      refine I.vals w fun vs α1 H1 Z1 F1 xs Fx w1 I1 s1 g1 rl => ?_
      obtain ⟨o1, eo1, w2⟩ := onO.el w1
      rw [ek] at w2
      have I2 := I.frz s1 g1 I1.rs
      have ol : ∃ ds, o1 = .od ds ∧ mutQ m (.od ds) vs fun v o' => P v (setP (.v i) α1 (some o')) := by
        cases o1 with
        | od ds => exact ⟨ds, rfl, w2⟩
        | ol _ => exact w2.elim
        | ll _ _ => exact w2.elim
        | oi _ _ => exact w2.elim
        | ld a ds => cases m <;> exact w2.elim
        | p d => cases d <;> first | exact w2.elim | (cases m <;> exact w2.elim)
      obtain ⟨ds1, rfl, w3⟩ := ol
      obtain ⟨l, ws, hσ, hl, rr, wr⟩ := I2.dct eo1
      rw [h1] at hσ
      cases hσ
      refine hr ds1 vs l0 ws xs H1 _ _ Q w3 hl rr (fun es e => rl.tds e) rl.len.symm fun d es x' ws' hp r1 r2 => ?_
      obtain ⟨F', sw, I3⟩ := wr es ws' r1
      exact I3.now hp (RD.keep (sw.keep I2.g) d r2)
    cases m with
    | clear =>
      refine dct ⟨PySem.F.plainAttrs_dict, PySem.F.slot_dict_clear, PySem.F.type_dict_clear, mtd_clear⟩ (fun ds vs l ws xs H1 k Z1 Q' wq hl rr ra ln q => ?_) (by rw [ek] at w ⊢; exact w)
      match vs, wq, ln with
      | [], wq, ln => exact ⟨l, ws, rfl, List.eq_nil_of_length_eq_zero ln, hl, q .non [] .non [] wq rfl rfl⟩
    | dpop =>
      refine dct ⟨PySem.F.plainAttrs_dict, PySem.F.slot_dict_pop, PySem.F.type_dict_pop, dp_ok⟩ (fun ds vs l ws xs H1 k Z1 Q' wq hl rr ra ln q => ?_) (by rw [ek] at w ⊢; exact w)
      match vs, wq, ln with
      | [v], wq, ln =>
        obtain ⟨d, ed, wq⟩ := onO.el wq
        obtain ⟨j, ej, wq⟩ := onO.el wq
        obtain ⟨u, eu, wq⟩ := onO.el wq
        obtain ⟨y, q2, e, rd2, e2⟩ := ra [d] (by show (match toD v, toDs [] with | some d, some q => some (d :: q) | _, _ => none) = _; rw [ed])
        cases e2
        obtain ⟨x', e3, rd⟩ : ∃ x, valV ws (kK j) = some x ∧ RD X.K H1 Z1 u x := by
          have := rr.val j
          rw [eu] at this
          exact this
        have ey : y = kV (kK j) := key_rd (v := .p d) (F := []) ⟨rd2, rfl⟩ rfl ej
        subst ey
        exact ⟨l, ws, kK j, x', rfl, e, hl, e3, q u _ x' _ wq (rr.del j) rd⟩
    | _ => rw [ek] at w; exact w.elim
  | t => rw [ek] at w; cases m <;> exact w.elim
  | s => rw [ek] at w; cases m <;> exact w.elim
  | o => rw [ek] at w; cases m <;> exact w.elim
theorem s_mut {i : Nat} {x nm : Str} {p p2 : Pos} (m : Mu) (ha : PA X (e :: es) (tEs X.K rx c W ms)) (hN : X.N[i]? = some x := by rfl) (hv : Vis X.env.scope x := by first | exact .inl rfl | exact .inr (.inl rfl) | exact .inr (.inr rfl)) (hnm : nm = m.nm := by rfl) (hne : m ≠ .extend := by (intro h; cases h))
    (hd : (x == ("__debug__" : Str)) = false := by decide) (hcd : (x == ("__classdict__" : Str)) = false := by decide) (hbase : attributeBase (.Name x p) nm X.env (eval (.Name x p) X.env) = eval (.Name x p) X.env := by rfl)
    (hfew : ((backTo pos (starEach (e :: es) X.env)).all (fun x => !x.1) && (backToKw pos (keywordEach [] X.env)).all (fun x => x.1.isSome)
      && decide ((e :: es).length + ([] : List Keyword).length + (if ([] : List Keyword).isEmpty then 0 else 1) < 30)) = true := by rfl)
    (hline : (p2.endLine == pos.line) = true := by rfl) (hs : starEach (e :: es) X.env = (false, eval e X.env) :: starEach es X.env := by rfl) (hplain : (backTo pos (starEach es X.env)).any (·.1) = false := by rfl) :
    PE X (.Call (.Attribute (.Name x p) nm p2) (e :: es) [] pos) (tE X.K rx c W (.mut m (.v i) ms)) := by
  subst hnm
  exact PE.weak (pe_bx (pe_var hN hv hd hcd) ha hbase hfew hline hs hplain) fun σ H Q h => mut_run hne h
theorem s_mut0 {i : Nat} {x nm : Str} {p p2 : Pos} (m : Mu) (hN : X.N[i]? = some x := by rfl) (hv : Vis X.env.scope x := by first | exact .inl rfl | exact .inr (.inl rfl) | exact .inr (.inr rfl)) (hnm : nm = m.nm := by rfl) (hne : m ≠ .extend := by (intro h; cases h))
    (hd : (x == ("__debug__" : Str)) = false := by decide) (hcd : (x == ("__classdict__" : Str)) = false := by decide) (hbase : attributeBase (.Name x p) nm X.env (eval (.Name x p) X.env) = eval (.Name x p) X.env := by rfl)
    (hline : (p2.endLine == pos.line) = true := by rfl) : PE X (.Call (.Attribute (.Name x p) nm p2) [] [] pos) (tE X.K rx c W (.mut m (.v i) .nil)) := by
  subst hnm
  refine PE.weak (pe_bx0 (pe_var hN hv hd hcd) hbase hline) fun σ H Q h => ?_
  obtain ⟨v, h1, T, id, r, mk, ty, q⟩ := mut_run hne h
  exact ⟨v, h1, T, id, r, mk, ty, tEs_nil q⟩
theorem RDs.setN {K : PySem.W.Frag} {H : Hp} {Z : ZP} {ds : List D} {vs : List V} {d : D} {x : V} (n : Nat) (h : RDs K H Z ds vs) (hd : RD K H Z d x) : RDs K H Z (setL ds n d) (vs.set n x) := h.set n hd
theorem RK.any {K : PySem.W.Frag} {H : Hp} {Z : ZP} {kvs : List (Am.Key × D)} : ∀ {ws : List (L2.Key × V)} (k : Am.Key), RK K H Z kvs ws → (ws.any fun kv => decide (kv.1 = kK k)) = kvs.any fun kv => decide (kv.1 = k) := by
  induction kvs with
  | nil => intro ws k h; cases h; rfl
  | cons kd r ih =>
    intro ws k h
    obtain ⟨j, d⟩ := kd
    obtain ⟨x, q, rfl, h1, h2⟩ := h
    simp only [List.any_cons, ih k h2]
    congr 1
    by_cases e : j = k
    · subst e; simp
    · have e2 : kK j ≠ kK k := fun z => e (kK_inj z)
      simp [e, e2]
theorem RK.map {K : PySem.W.Frag} {H : Hp} {Z : ZP} {d : D} {x : V} (hd : RD K H Z d x) {kvs : List (Am.Key × D)} : ∀ {ws : List (L2.Key × V)} (k : Am.Key), RK K H Z kvs ws →
    RK K H Z (kvs.map fun kv => if kv.1 = k then (kv.1, d) else kv) (ws.map fun kv => if kv.1 = kK k then (kv.1, x) else kv) := by
  induction kvs with
  | nil => intro ws k h; cases h; exact rfl
  | cons kd r ih =>
    intro ws k h
    obtain ⟨j, d'⟩ := kd
    obtain ⟨x', q, rfl, h1, h2⟩ := h
    by_cases e : j = k
    · subst e
      simp only [List.map_cons, if_true]
      exact ⟨x, _, rfl, hd, ih j h2⟩
    · have e2 : kK j ≠ kK k := fun z => e (kK_inj z)
      simp only [List.map_cons, e, e2, if_false]
      exact ⟨x', _, rfl, h1, ih k h2⟩
theorem RK.app {K : PySem.W.Frag} {H : Hp} {Z : ZP} {kvs more : List (Am.Key × D)} : ∀ {ws ws' : List (L2.Key × V)}, RK K H Z kvs ws → RK K H Z more ws' → RK K H Z (kvs ++ more) (ws ++ ws') := by
  induction kvs with
  | nil => intro ws ws' h h'; cases h; exact h'
  | cons kd r ih =>
    intro ws ws' h h'
    obtain ⟨j, d'⟩ := kd
    obtain ⟨x', q, rfl, h1, h2⟩ := h
    exact ⟨x', _, rfl, h1, ih h2 h'⟩
theorem RK.put {K : PySem.W.Frag} {H : Hp} {Z : ZP} {kvs : List (Am.Key × D)} {ws : List (L2.Key × V)} {d : D} {x : V} (k : Am.Key) (h : RK K H Z kvs ws) (hd : RD K H Z d x) : RK K H Z (Am.putK kvs k d) (L2.putK ws (kK k) x) := by
  unfold Am.putK L2.putK
  rw [h.any k]
  split
  · exact h.map hd k
  · exact h.app ⟨x, [], rfl, hd, rfl⟩
theorem set_any (hu : X.A.units + 1 < cLine) : PSet X (fun o i v H Q => ∃ a, o = .ref a ∧ ((∃ xs j m, H a = some (.lst xs) ∧ i = .int j ∧ ixN xs.length j = some m ∧ Q (upd H a (.lst (xs.set m v)))) ∨
    (∃ kvs k, H a = some (.dK kvs) ∧ i = kV k ∧ kvs.length < sizeLine ∧ Q (upd H a (.dK (L2.putK kvs k v)))))) := by
  intro pins s σ H o i v ov iv u Q I ro ri rv h
  obtain ⟨a, rfl, ⟨xs, j, m, ha, rfl, h0, q⟩ | ⟨kvs, k, ha, rfl, hz, q⟩⟩ := h
  · exact set_list pins s σ H _ _ v ov iv u Q I ro ri rv ⟨a, xs, j, m, rfl, rfl, ha, h0, q⟩
  · obtain rfl : ov = Value.ref a := ro
    exact d_setItem hu I (.inl ⟨kvs, k, ha, rfl, hz, rfl⟩) ri rv fun s' I' => ⟨_, I', q⟩
theorem InS.writeL {σ : L2.St} {H : Hp} {Z : ZP} {F : List Addr} {α : Sl} {sg : List Bool} {N : Am.Ends} {X' : XP} {DD : L2.Ends} (I : InS X.K rx W sg σ H Z F α N X' DD) {i : Nat} {ds : List D} (e : getS α i = some (.ol ds)) : ∃ l vs, σ[i]? = some (some (.ref l)) ∧ H l = some (.lst vs) ∧ RDs X.K H Z ds vs ∧
    ∀ ds' vs', RDs X.K H Z ds' vs' → ∃ F', InS X.K rx W sg σ (upd H l (.lst vs')) Z F' (setS α i (some (.ol ds'))) N X' DD := by
  obtain ⟨x, Fi, Fr, h1, ⟨l, vs, rfl, rfl, hl, r⟩, p, _, gone⟩ := I.rs.get e
  refine ⟨l, vs, h1, hl, r, fun ds' vs' r' => ?_⟩
  have gl : G3 H Z [l] := (I.g.perm p).left
  obtain ⟨F', s, g, rs⟩ := I.rs.write (w := .ol ds') I.g h1 p gone (o := .lst vs') trivial ⟨l, vs', rfl, rfl, upd_same, r'.wr gl⟩
  exact ⟨F', I.next s g .refl rs⟩
theorem InS.writeD {σ : L2.St} {H : Hp} {Z : ZP} {F : List Addr} {α : Sl} {sg : List Bool} {N : Am.Ends} {X' : XP} {DD : L2.Ends} (I : InS X.K rx W sg σ H Z F α N X' DD) {i : Nat} {ds : List (Am.Key × D)} (e : getS α i = some (.od ds)) : ∃ l vs, σ[i]? = some (some (.ref l)) ∧ H l = some (.dK vs) ∧ RK X.K H Z ds vs ∧
    ∀ ds' vs', RK X.K H Z ds' vs' → ∃ F', InS X.K rx W sg σ (upd H l (.dK vs')) Z F' (setS α i (some (.od ds'))) N X' DD := by
  obtain ⟨x, Fi, Fr, h1, ⟨l, vs, rfl, rfl, hl, r⟩, p, _, gone⟩ := I.rs.get e
  refine ⟨l, vs, h1, hl, r, fun ds' vs' r' => ?_⟩
  have gl : G3 H Z [l] := (I.g.perm p).left
  obtain ⟨F', s, g, rs⟩ := I.rs.write (w := .od ds') I.g h1 p gone (o := .dK vs') trivial ⟨l, vs', rfl, rfl, upd_same, r'.wr gl⟩
  exact ⟨F', I.next s g .refl rs⟩
theorem InS.frz2 {σ : L2.St} {H H1 : Hp} {Z Z1 : ZP} {F F1 Fx : List Addr} {α α1 : Sl} {sg : List Bool} {N : Am.Ends} {X' : XP} {DD : L2.Ends} (I : InS X.K rx W sg σ H Z F α N X' DD) (s : Step H Z F H1 Z1 (F1 ++ Fx)) (g : G3 H1 Z1 (F1 ++ Fx)) (rs : RS X.K H1 Z1 α1 σ F1) : InS X.K rx W sg σ H1 (fun a => Z1 a ∨ a ∈ Fx) F1 α1 N X' DD := I.frz s g rs
/-- o[i] = v -/
theorem s_put {i : Nat} {x : Str} {p p2 : Pos} {sg : List Bool} (hu : X.A.units + 190 < cLine) (he : PE X e (tE X.K rx c W md)) (hi : PE X b (tE X.K rx c W mb)) (hN : X.N[i]? = some x := by rfl) (hv : Vis X.env.scope x := by first | exact .inl rfl | exact .inr (.inl rfl) | exact .inr (.inr rfl))
    (hd : (x == ("__debug__" : Str)) = false := by decide) (hcd : (x == ("__classdict__" : Str)) = false := by decide)
    (ha : ∀ v, assign (.Subscript (.Name x p) b p2) X.env v = (do
      let ov ← holding [v] (eval (.Name x p) X.env)
      let iv ← holding [v, ov] (eval b X.env)
      standAt p2
      holding [v, ov, iv] (setItem ov iv v)
      release [v, ov, iv] []) := by intro _; rfl)
    (hs : swapsWithSole [.Subscript (.Name x p) b p2] e pos.line X.env = pure false := by rfl) (hw : swappedStores [.Subscript (.Name x p) b p2] e X.env = pure none := by rfl)
    (h1 : (assignEach [.Subscript (.Name x p) b p2] X.env).map (·.2) = [assign (.Subscript (.Name x p) b p2) X.env] := by rfl) :
    PS X (.Assign [.Subscript (.Name x p) b p2] e pos) (tS X.K rx c W sg (.asg (.idx (.pl (.v i)) mb) md)) := PS.weak (ps_asg he (pg_sub (pe_var hN hv hd hcd) hi (set_any (by omega)) ha) hs hw h1) fun DD σ H ⟨α, Z, F, N, X', I, w⟩ => by
  have w : wpE c md α (fun v α1 => onO (getP (.v i) α1) fun _ => wpE c mb α1 (fun y α2 => onO (getP (.v i) α2) fun o => putQ o y v fun o' => N.nx (setP (.v i) α2 (some o'))) X') X' := w
  refine I.val w fun v α1 H1 Z1 F1 y Fx w1 I1 s1 g1 r1 => ?_
  obtain ⟨o0, eo0, w1⟩ := onO.el w1
  obtain ⟨xo, _, _, hσ, _⟩ := I1.rs.get eo0
  refine ⟨xo, hσ, ?_⟩
  refine I1.val w1 fun u α2 H2 Z2 F2 z Fy w2 I2 s2 g2 r2 => ?_
  obtain ⟨o, eo, w3⟩ := onO.el w2
  -- what was held becomes data
  have gg := G3.beside g1 s2 g2
  have ss := s2.beside g1
  have pp : ((F2 ++ Fy) ++ Fx).Perm (F2 ++ (Fy ++ Fx)) := by rw [List.append_assoc]
  have I3 := I.frz ((s1.trans ss).permR pp) (gg.perm pp) I2.rs
  have r1' := (r1.frame g1.left s2 g1.dis)
  have kz : ∀ {d : D}, toD v = some d → RD X.K H2 (fun a => Z2 a ∨ a ∈ Fy ++ Fx) d y := fun {d} e => RD.keep (.z fun a z => z.imp id fun z => List.mem_append_right _ z) d (r1'.toD e)
  cases o with
  | ol xs =>
    obtain ⟨j, rfl, w4⟩ := onI.el w3
    obtain ⟨d, ed, w5⟩ := onO.el w4
    obtain ⟨l, ws, hσ2, hl, rr, wr⟩ := I3.writeL eo
    rw [hσ] at hσ2
    cases hσ2
    cases r2.1
    cases j with
    | negSucc n =>
      obtain ⟨ln, w5⟩ : n < xs.length ∧ N.nx (setP (.v i) α2 (some (.ol (setL xs (xs.length - 1 - n) d)))) := w5
      obtain ⟨F', I4⟩ := wr _ _ (rr.setN (xs.length - 1 - n) (kz ed))
      refine ⟨l, rfl, .inl ⟨ws, Int.negSucc n, _, hl, rfl, ?_, I4.nxt w5⟩⟩
      rw [← rr.len]
      unfold ixN
      rw [if_neg (by omega), if_pos (by omega)]
      congr 1
      omega
    | ofNat n =>
      obtain ⟨_, eg, w5⟩ := onO.el w5
      have lt := getL_lt eg
      obtain ⟨F', I4⟩ := wr _ _ (rr.setN n (kz ed))
      refine ⟨l, rfl, .inl ⟨ws, Int.ofNat n, _, hl, rfl, ?_, I4.nxt w5⟩⟩
      rw [← rr.len]
      unfold ixN
      rw [if_pos (show (0 : Int) ≤ Int.ofNat n from Int.natCast_nonneg n), if_pos (show Int.ofNat n < (xs.length : Int) from Int.ofNat_lt.mpr lt)]
      rfl
  | od kvs =>
    obtain ⟨de, ede, w4⟩ := onO.el w3
    obtain ⟨k, ek, w5⟩ := onO.el w4
    obtain ⟨d, ed, hz, w6⟩ := onO.el w5
    obtain ⟨l, ws, hσ2, hl, rr, wr⟩ := I3.writeD eo
    rw [hσ] at hσ2
    cases hσ2
    obtain ⟨F', I4⟩ := wr _ _ (rr.put k (kz ed))
    exact ⟨l, rfl, .inr ⟨ws, kK k, hl, key_rd r2 ede ek, by rw [← rr.len]; exact hz, I4.nxt w6⟩⟩
  | _ => exact w3.elim
end
end Am

set_option maxHeartbeats 4000000
namespace Am
open PySem PySem.Spec PyProof.Rows L2
variable [CN]
def flatP : List (V × V) → List V
  | [] => []
  | (x, y) :: r => x :: y :: flatP r
theorem flatP_inj : ∀ {a b : List (V × V)}, flatP a = flatP b → a = b
  | [], [], _ => rfl
  | [], _ :: _, h => by simp [flatP] at h
  | _ :: _, [], h => by simp [flatP] at h
  | (x, y) :: r, (x', y') :: r', h => by
    simp only [flatP, List.cons.injEq] at h
    obtain ⟨rfl, rfl, h⟩ := h
    rw [flatP_inj h]
def trsOf (K : PySem.W.Frag) (rx : RX) (c : Am.Ctx) (W : WX) : MEs → List (TE × TE)
  | .cons k (.cons v r) => (tE K rx c W k, tE K rx c W v) :: trsOf K rx c W r
  | _ => []
def MEs.even : MEs → Bool
  | .nil => true
  | .cons _ (.cons _ r) => r.even
  | _ => false
section
variable {K : PySem.W.Frag} {rx : RX} {c : Am.Ctx} {W : WX} {H H' H1 H2 : Hp} {Z Z' Z1 Z2 : ZP} {F F' F1 F2 Fx Fy Fr : List Addr} {α α1 α2 : Sl} {σ : L2.St} {P : VP} {X' : XP} {Q : VK}
theorem tEs.mono {m : MEs} {Q Q' : List V → Hp → Prop} (h : tEs K rx c W m σ H Q) (w : ∀ x H, Q x H → Q' x H) : tEs K rx c W m σ H Q' := let ⟨α, Z, F, P, X', a, b, c, d, e⟩ := h; ⟨α, Z, F, P, X', a, b, c, fun v α' p H' Z' F' x Fr s g rs r => w _ _ (d v α' p H' Z' F' x Fr s g rs r), e⟩
theorem pairs_run : ∀ {ms : MEs} {H : Hp} {R : List (V × V) → Hp → Prop}, ms.even = true → tEs K rx c W ms σ H (fun xs H1 => ∀ ps, flatP ps = xs → R ps H1) → tPairs (trsOf K rx c W ms) σ H R
  | .nil, H, R, _, h => (tEs_nil h) [] rfl
  | .cons k .nil, _, _, he, _ => by cases he
  | .cons k (.cons v r), H, R, he, h => by
    have h1 := tEs_cons h
    refine tE.mono h1 fun x H1 h2 => ?_
    refine tE.mono (tEs_cons h2) fun y H2 h3 => ?_
    exact pairs_run (ms := r) he (tEs.mono h3 fun xs H3 q ps e => q ((x, y) :: ps) (by simp [flatP, e]))
theorem RL.pairs : ∀ {vs : List AV} {xs : List V} {Fx : List Addr} {kvs : List (Am.Key × D)}, RL K H Z vs xs Fx → pairV vs = some kvs → ∃ ws : List (L2.Key × V), flatP (ws.map fun kv => (kV kv.1, kv.2)) = xs ∧ RK K H (fun a => Z a ∨ a ∈ Fx) kvs ws ∧ ws.length = kvs.length
  | [], _, _, _, ⟨e, _⟩, h => by cases h; exact ⟨[], e.symm, rfl, rfl⟩
  | [_], _, _, _, _, h => by cases h
  | k :: v :: r, _, _, kvs, ⟨x, q, F1, F2, e, ef, h1, ⟨y, q', F3, F4, e', ef', h2, h3⟩⟩, h => by
    subst ef'
    subst ef
    subst e'
    have h : (match toD k, toD v, pairV r with
      | some d, some e, some q => (match key? d with
        | some j => some ((j, e) :: q)
        | none => none)
      | _, _, _ => none) = some kvs := h
    split at h
    · rename_i d e' q0 ed ev er
      split at h
      · rename_i j ej
        cases h
        obtain ⟨ws, w1, w2, w3⟩ := RL.pairs h3 er
        refine ⟨(kK j, y) :: ws, ?_, ⟨y, ws, rfl, RD.keep (.z fun a z => z.imp id fun z => by simp [z]) _ (h2.toD ev), RK.keep (.z fun a z => z.imp id fun z => by simp [z]) q0 w2⟩, by simp [w3]⟩
        rw [e]
        simp only [List.map_cons, flatP, w1]
        rw [key_rd h1 ed ej]
      · cases h
    · cases h
theorem RK.merge {more : List (Am.Key × D)} : ∀ {kvs : List (Am.Key × D)} {ws' ws : List (L2.Key × V)}, RK K H Z more ws' → RK K H Z kvs ws → RK K H Z (mergeD kvs more) (mergeK ws ws') := by
  induction more with
  | nil => intro kvs ws' ws h h'; cases h; exact h'
  | cons kd r ih =>
    intro kvs ws' ws h h'
    obtain ⟨k, d⟩ := kd
    obtain ⟨x, q, rfl, h1, h2⟩ := h
    show RK K H Z (mergeD (Am.putK kvs k d) r) (mergeK (L2.putK ws (kK k) x) q)
    exact ih h2 (h'.put k h1)
end
section
variable {X : Cx} {rx : RX} {c : Am.Ctx} {W : WX} {a b d e : Expr} {rest es : List Expr} {pos : Pos} {ma mb md : ME} {ms : MEs}
theorem sp_nil : PPs X pos [] [] (trsOf X.K rx c W .nil) := pps_nil
theorem sp_cons {k v : Expr} {ks : List (Option Expr)} {vs : List Expr} (hk : PE X k (tE X.K rx c W ma)) (hv : PE X v (tE X.K rx c W mb)) (hr : PPs X pos ks vs (trsOf X.K rx c W ms)) : PPs X pos (some k :: ks) (v :: vs) (trsOf X.K rx c W (.cons ma (.cons mb ms))) := pps_cons hk hv hr
theorem s_dsp {keys : List (Option Expr)} {values : List Expr} (h : PPs X pos keys values (trsOf X.K rx c W ms)) (he : ms.even = true := by rfl) (hall : keys.all (·.isSome) = true := by rfl) (hl : keys.length = values.length := by rfl) (h0 : keys ≠ [] := by (intro h; cases h)) (h15 : keys.length ≤ 15 := by decide) :
    PE X (.Dict keys values pos) (tE X.K rx c W (.dsp ms)) := PE.weak (pe_disp h hall hl h0 h15) fun σ H Q h p hp => by
  obtain ⟨α, Z, F, P, X', I, w⟩ := tE.el h
  have n : New H Z (upd H p (.dK [])) Z [p] := .own hp trivial
  have nn := n F I.g
  have rs0 := I.rs.new n I.g.zt
  have I0 := I.next nn.1 nn.2 rs0
  refine pairs_run he (I0.vals w fun vs α1 H1 Z1 F1 xs Fx w1 I1 s1 g1 rl => ?_)
  intro ps eps
  obtain ⟨kvs, ek, hz, w2⟩ := onO.el w1
  obtain ⟨ws, e1, rk, el⟩ := rl.pairs ek
  -- the new dict stands beside
  have gb := nn.2
  have hpF : p ∉ F := fun hm => (I.g.ow p hm).some' hp
  have s2 := s1.beside gb
  have g2 := G3.beside gb s1 g1
  have h1p : H1 p = some (.dK []) := s1.fr p _ upd_same hpF
  have e2 : ps = ws.map fun kv => (kV kv.1, kv.2) := flatP_inj (eps.trans e1.symm)
  refine ⟨h1p, ws, e2, by rw [el]; exact hz, ?_⟩
  -- what was held becomes data
  have pp : ((F1 ++ Fx) ++ [p]).Perm ((F1 ++ [p]) ++ Fx) := assoc3'
  have s3 := ((nn.1.trans s2).permR pp).trans .frz
  have g3 := (g2.perm pp).frz
  have gl : G3 H1 (fun a => Z1 a ∨ a ∈ Fx) [p] := g3.right
  have rkm : RK X.K H1 (fun a => Z1 a ∨ a ∈ Fx) (mergeD [] kvs) (mergeK [] ws) := RK.merge rk rfl
  have sw : Step H1 (fun a => Z1 a ∨ a ∈ Fx) [p] (upd H1 p (.dK (mergeK [] ws))) (fun a => Z1 a ∨ a ∈ Fx) [p] := .wr (by simp)
  have gp := g3.perm (List.perm_append_comm (l₁ := F1) (l₂ := [p]))
  have sb := sw.beside gp
  have gb2 := G3.beside gp sw (G3.wr (o := .dK (mergeK [] ws)) trivial gl)
  have rs4 : RS X.K (upd H1 p (.dK (mergeK [] ws))) (fun a => Z1 a ∨ a ∈ Fx) α1 σ F1 := (I1.rs.keepZ fun _ z => .inl z).frame gl sw gp.dis
  exact I.fin w2 (((s3.permR (List.perm_append_comm (l₁ := F1) (l₂ := [p]))).trans sb).permR List.perm_append_comm) (gb2.perm List.perm_append_comm) rs4 ⟨p, _, rfl, rfl, upd_same, rkm.wr gl⟩
/-- {} -/
theorem s_dsp0 : PE X (.Dict [] [] pos) (tE X.K rx c W (.dsp .nil)) := PE.weak pe_dnewK fun σ H Q h p hp => by
  obtain ⟨α, Z, F, P, X', I, w⟩ := tE.el h
  have w : ([] : List (Am.Key × D)).length ≤ 15 ∧ P (.od (mergeD [] [])) α := w
  exact I.res.dct I.g.zt w.2 (show RK X.K H Z (mergeD [] []) [] from rfl) hp
end
abbrev W0 : WX := fun _ _ _ _ => False
def okIfs : MEs → Bool
  | .nil => true
  | .cons _ .nil => true
  | _ => false
def tTs (K : PySem.W.Frag) (rx : RX) (c : Am.Ctx) (m : MEs) : TT := match m with
  | .nil => tYes
  | .cons m .nil => tT K rx c W0 m
  | _ => fun _ _ _ => False
section
variable {K : PySem.W.Frag} {rx : RX} {c : Am.Ctx} {W : WX} {H H' H1 H2 : Hp} {Z Z' Z1 Z2 : ZP} {F F' F1 F2 Fx Fy Fr : List Addr} {α α1 α2 β : Sl} {σ : L2.St} {P : VP} {X' : XP} {Q : VK}
theorem RS.wipe (rs : RS K H Z α σ F) : ∀ own : List Nat, ∃ F' rest, RS K H Z (Am.wipe own α) (L2.wipe σ own) F' ∧ F.Perm (F' ++ rest)
  | [] => ⟨F, [], rs, by rw [List.append_nil]⟩
  | i :: r => by
    obtain ⟨F', rest, a, b⟩ := RS.wipe rs r
    obtain ⟨F2, rest2, a2, b2⟩ := a.putN (i := i) (y := none)
    exact ⟨F2, rest2 ++ rest, a2, b.trans ((List.Perm.append_right rest b2).trans (by rw [List.append_assoc]))⟩
theorem setS_comm : ∀ (β : Sl) (i j : Nat), setS (setS β i none) j none = setS (setS β j none) i none
  | [], _, _ => rfl
  | _ :: _, 0, 0 => rfl
  | _ :: _, 0, _ + 1 => rfl
  | _ :: _, _ + 1, 0 => rfl
  | x :: r, i + 1, j + 1 => congrArg (x :: ·) (setS_comm r i j)
theorem wipe_setS : ∀ (own : List Nat) (β : Sl) (i : Nat), Am.wipe own (setS β i none) = setS (Am.wipe own β) i none
  | [], _, _ => rfl
  | j :: r, β, i => by
    show setS (Am.wipe r (setS β i none)) j none = setS (setS (Am.wipe r β) j none) i none
    rw [wipe_setS r β i, setS_comm]
theorem RS.unwipe : ∀ {own : List Nat} {β : Sl} {F : List Addr}, RS K H Z β (L2.wipe σ own) F → ∃ F' rest, RS K H Z (Am.wipe own β) σ F' ∧ F.Perm (F' ++ rest)
  | [], β, F, rs => ⟨F, [], rs, by rw [List.append_nil]⟩
  | i :: r, β, F, rs => by
    have rs : RS K H Z β ((L2.wipe σ r).set i none) F := rs
    have one : ∃ F1 rest, RS K H Z (setS β i none) (L2.wipe σ r) F1 ∧ F.Perm (F1 ++ rest) := by
      by_cases hlt : i < (L2.wipe σ r).length
      · obtain ⟨F1, rest, a, b⟩ := rs.putN (i := i) (y := (L2.wipe σ r)[i])
        refine ⟨F1, rest, ?_, b⟩
        rw [List.set_set] at a
        have e : (L2.wipe σ r).set i (L2.wipe σ r)[i] = L2.wipe σ r := List.ext_getElem? fun j => by
          by_cases hj : i = j
          · subst hj
            rw [List.getElem?_set_self hlt, List.getElem?_eq_getElem hlt]
          · rw [List.getElem?_set_ne hj]
        rwa [e] at a
      · obtain ⟨F1, rest, a, b⟩ := rs.putN (i := i) (y := none)
        refine ⟨F1, rest, ?_, b⟩
        rw [List.set_set, List.set_eq_of_length_le (by omega)] at a
        exact a
    obtain ⟨F1, rest, a, b⟩ := one
    obtain ⟨F2, rest2, a2, b2⟩ := RS.unwipe a
    rw [wipe_setS] at a2
    exact ⟨F2, rest2 ++ rest, a2, b.trans ((List.Perm.append_right rest b2).trans (by rw [List.append_assoc]))⟩
theorem RS.dat : ∀ {own : List Nat} {β : Sl} {F : List Addr}, RS K H Z β σ F → (∀ i d, getS α1 i = some (.p d) → ∃ x, σ[i]? = some (some x) ∧ RD K H Z d x) → ∃ F' rest, RS K H Z (Am.dat own α1 β) σ F' ∧ F.Perm (F' ++ rest)
  | [], β, F, rs, _ => ⟨F, [], rs, by rw [List.append_nil]⟩
  | i :: r, β, F, rs, h => by
    obtain ⟨F1, rest, a, b⟩ := RS.dat (own := r) rs h
    show ∃ F' rest, RS K H Z (match getS α1 i with
      | some (.p d) => setS (Am.dat r α1 β) i (some (.p d))
      | _ => Am.dat r α1 β) σ F' ∧ F.Perm (F' ++ rest)
    split
    · rename_i d e
      obtain ⟨x, hx, rd⟩ := h i d e
      obtain ⟨F2, rest2, a2, b2⟩ := a.putV (i := i) (show RA K H Z (.p d) x [] from ⟨rd, rfl⟩)
      rw [set_self hx] at a2
      rw [List.append_nil] at b2
      exact ⟨F2, rest2 ++ rest, a2, b.trans ((List.Perm.append_right rest b2).trans (by rw [List.append_assoc]))⟩
    · exact ⟨F1, rest, a, b⟩
theorem wipe_at {σ : L2.St} : ∀ {vs : List Nat} {j : Nat}, (L2.wipe σ vs)[j]? = if j ∈ vs ∧ j < σ.length then some none else σ[j]?
  | [], j => by simp [L2.wipe]
  | v :: vs, j => by
    unfold L2.wipe
    by_cases e : v = j
    · subst e
      by_cases hl : v < σ.length
      · rw [List.getElem?_set_self (by rw [wipe_length]; exact hl), if_pos ⟨by simp, hl⟩]
      · rw [List.getElem?_eq_none (by rw [List.length_set, wipe_length]; omega), if_neg (fun h => hl h.2), List.getElem?_eq_none (by omega)]
    · rw [List.getElem?_set_ne e, wipe_at]
      have : (j ∈ v :: vs) ↔ j ∈ vs := by simp [Ne.symm e]
      simp only [this]
theorem wipe_same {sg : List Bool} {σ σ2 : L2.St} {vs : List Nat} (h : Same sg (L2.wipe σ vs) σ2) (hs : ∀ i, getL sg i = some true → i ∈ vs) : L2.wipe σ2 vs = L2.wipe σ vs := List.ext_getElem? fun j => by
  have hl : σ2.length = σ.length := by rw [h.1, wipe_length]
  rw [wipe_at, hl]
  by_cases hj : j ∈ vs ∧ j < σ.length
  · rw [if_pos hj, wipe_at, if_pos hj]
  · rw [if_neg hj]
    by_cases hv : j ∈ vs
    · have : ¬ j < σ.length := fun z => hj ⟨hv, z⟩
      rw [List.getElem?_eq_none (by omega), List.getElem?_eq_none (by rw [wipe_length]; omega)]
    · exact h.2 j fun z => hv (hs j z)
end
section
variable {X : Cx} {rx : RX} {c : Am.Ctx} {W : WX} {a b d e : Expr} {rest es : List Expr} {pos : Pos} {ma mb md me t : ME} {ms ifs : MEs} {it : MI}
theorem lc_run (hifs : okIfs ifs = true) {σ : L2.St} {H : Hp} {Q : VK} {own : List Nat} {sg : List Bool} (hsg : ∀ i, getL sg i = some true → i ∈ own) (h : tE X.K rx c W (.lc me t it ifs own) σ H Q) : tLc (tI X.K rx c W t it) (tG X.K sg t) (tTs X.K rx c ifs) (tE X.K rx c W0 me) own σ H Q := by
  obtain ⟨α, Z, F, P, X', I, w⟩ := tE.el h
  refine ⟨α, Z, F, _, X', I.rs, I.g, w, I.hX, fun xs gd ex α1 ⟨hz, w1⟩ H1 Z1 F1 J s1 g1 rs1 later D hD => ?_⟩
  have n : New H1 Z1 (upd H1 D (.lst [])) Z1 [D] := .own hD trivial
  obtain ⟨sn, gn⟩ := n F1 g1
  obtain ⟨F1b, rst, rsb, pb⟩ := (rs1.new n g1.zt).wipe own
  -- what the names of the block's own held before it, if it was data
  have datas : ∀ i dd, getS α1 i = some (.p dd) → ∃ x, σ[i]? = some (some x) ∧ RD X.K H1 Z1 dd x := fun i dd e => by
    obtain ⟨x, Fi, Fr, h1, h2, _⟩ := rs1.get e
    exact ⟨x, h1, h2.1⟩
  have key : ∀ ys α2, gd α2 → P (.ol ys) (dat own α1 (Am.wipe own (ex α2))) → ∀ H' Z' F' av, Step (upd H1 D (.lst [])) Z1 (F1 ++ [D]) H' Z' (F' ++ [D]) → G3 H' Z' (F' ++ [D]) → RS X.K H' Z' α2 (L2.wipe σ own) F' → H' D = some (.lst av) → RDs X.K H' Z' ys av → Q (.ref D) H' := fun ys α2 hg hp H' Z' F' av st g' rs' hd hr => by
    have sl : Step H1 Z1 F1 H' Z' F' := (sn.trans st).lessR fun _ h => List.mem_append_left _ h
    obtain ⟨rs2, _⟩ := later H' Z' α2 (L2.wipe σ own) F' sl g'.left rs' hg
    obtain ⟨F2, r2, rs3, p3⟩ := RS.unwipe rs2
    obtain ⟨F3, r3, rs4, p4⟩ := RS.dat (own := own) (α1 := α1) rs3 fun i dd e => by
      obtain ⟨x, h1, h2⟩ := datas i dd e
      exact ⟨x, h1, RD.keep (sl.keep g1) dd h2⟩
    have p5 : F'.Perm (F3 ++ (r3 ++ r2)) := p3.trans ((List.Perm.append_right r2 p4).trans (by rw [List.append_assoc]))
    have pp : (F' ++ [D]).Perm ((F3 ++ [D]) ++ (r3 ++ r2)) := (List.Perm.append_right [D] p5).trans assoc3'
    exact I.fin hp (((s1.trans (sn.trans st)).permR pp).lessR fun _ h => List.mem_append_left _ h) (g'.perm pp).left rs4 ⟨D, av, rfl, rfl, hd, hr⟩
  refine ⟨fun i m H' => m = xs.length - i ∧ ∃ α' Z' F' acc av, H' D = some (.lst av) ∧ RDs X.K H' Z' acc av ∧ acc.length ≤ i ∧ Step (upd H1 D (.lst [])) Z1 (F1 ++ [D]) H' Z' (F' ++ [D]) ∧ G3 H' Z' (F' ++ [D]) ∧ RS X.K H' Z' α' (L2.wipe σ own) F' ∧
    loopC own (fun d β k => wpG t d β k) (fun β k => wpT c ifs β k) (fun β k => wpE c me β k fun _ _ _ => False) gd (xs.drop i) acc α' fun ys α2 => P (.ol ys) (dat own α1 (Am.wipe own (ex α2))), ⟨_, rfl, Am.wipe own α1, Z1, F1b, [], [], upd_same, rfl, Nat.le_refl _, ?_, ?_, rsb, w1⟩, ?_⟩
  · exact (Step.refl.permR ((List.Perm.append_right [D] pb).trans assoc3')).lessR fun _ h => List.mem_append_left _ h
  · exact (gn.perm ((List.Perm.append_right [D] pb).trans assoc3')).left
  rintro i m H' ⟨rfl, α', Z', F', acc, av, hd, hr, ha, st, g', rs', w⟩
  have sl : Step H1 Z1 F1 H' Z' F' := (sn.trans st).lessR fun _ h => List.mem_append_left _ h
  cases e : xs.drop i with
  | nil =>
    rw [e] at w
    obtain ⟨hgd, w⟩ : gd α' ∧ P (.ol acc) (dat own α1 (Am.wipe own (ex α'))) := w
    obtain ⟨_, dr⟩ := later H' Z' α' _ F' sl g'.left rs' hgd
    exact .inl ⟨dr.2 i (by simpa using e), key acc α' hgd w H' Z' F' av st g' rs' hd hr⟩
  | cons dd r =>
    obtain ⟨e1, e2, e3⟩ := In.at1 e
    rw [e] at w
    obtain ⟨hgd, w⟩ : gd α' ∧ wpG t dd α' fun α2 => wpT c ifs α2 fun b α3 => ifB b
      (wpE c me α3 (fun v α4 => onO (toD v) fun d => loopC own (fun d β k => wpG t d β k) (fun β k => wpT c ifs β k) (fun β k => wpE c me β k fun _ _ _ => False) gd r (acc ++ [d]) (Am.wipe own α4) fun ys α2 => P (.ol ys) (dat own α1 (Am.wipe own (ex α2)))) fun _ _ _ => False)
      (loopC own (fun d β k => wpG t d β k) (fun β k => wpT c ifs β k) (fun β k => wpE c me β k fun _ _ _ => False) gd r acc (Am.wipe own α3) fun ys α2 => P (.ol ys) (dat own α1 (Am.wipe own (ex α2)))) := w
    obtain ⟨_, dr⟩ := later H' Z' α' _ F' sl g'.left rs' hgd
    obtain ⟨go, yl⟩ := dr.1 i e3
    refine .inr ⟨go, fun H2 => ∃ m', m' < xs.length - i ∧ m' = xs.length - (i + 1) ∧ ∃ α' Z' F' acc av, H2 D = some (.lst av) ∧ RDs X.K H2 Z' acc av ∧ acc.length ≤ i + 1 ∧ Step (upd H1 D (.lst [])) Z1 (F1 ++ [D]) H2 Z' (F' ++ [D]) ∧ G3 H2 Z' (F' ++ [D]) ∧ RS X.K H2 Z' α' (L2.wipe σ own) F' ∧
      loopC own (fun d β k => wpG t d β k) (fun β k => wpT c ifs β k) (fun β k => wpE c me β k fun _ _ _ => False) gd (xs.drop (i + 1)) acc α' fun ys α2 => P (.ol ys) (dat own α1 (Am.wipe own (ex α2))), fun H2 ⟨m', a, b, q⟩ => ⟨m', a, b, q⟩, fun x H2 hy => ?_⟩
    obtain ⟨d', ed, nw, ry⟩ := yl x H2 hy
    rw [e1] at ed
    cases ed
    obtain ⟨s2n, g2n⟩ := nw F' g'.left
    rw [List.append_nil] at s2n g2n
    have s2 := s2n.beside g'
    have g2 := G3.beside g' s2n g2n
    have rs3 := rs'.new nw g'.zt
    have hDF : D ∉ F' := fun hm => g'.dis D (by simp) hm
    have hd2 : H2 D = some (.lst av) := s2n.fr D _ hd hDF
    have hr2 : RDs X.K H2 Z' acc av := RDs.keep (s2n.keep g'.left) acc hr
    refine ⟨α', Z', F', dd, _, rs3, g2.left, ry.rg w, w, fun α2 σ2 F2 s3 g3 sm rs4 w2 => ⟨wipe_same sm hsg, ?_⟩⟩
    have hw2 : L2.wipe σ2 own = L2.wipe σ own := wipe_same sm hsg
    have s3b := (st.trans s2).trans (s3.beside g2)
    have g3b := G3.beside g2 s3 g3
    -- a turn's end
    have fin0 : ∀ α3 H3 Z3 F3 acc av, H3 D = some (.lst av) → RDs X.K H3 Z3 acc av → acc.length ≤ i + 1 → Step (upd H1 D (.lst [])) Z1 (F1 ++ [D]) H3 Z3 (F3 ++ [D]) → G3 H3 Z3 (F3 ++ [D]) → RS X.K H3 Z3 α3 σ2 F3 →
        loopC own (fun d β k => wpG t d β k) (fun β k => wpT c ifs β k) (fun β k => wpE c me β k fun _ _ _ => False) gd r acc (Am.wipe own α3) (fun ys α2 => P (.ol ys) (dat own α1 (Am.wipe own (ex α2)))) →
        ∃ m', m' < xs.length - i ∧ m' = xs.length - (i + 1) ∧ ∃ α' Z' F' acc av, H3 D = some (.lst av) ∧ RDs X.K H3 Z' acc av ∧ acc.length ≤ i + 1 ∧ Step (upd H1 D (.lst [])) Z1 (F1 ++ [D]) H3 Z' (F' ++ [D]) ∧ G3 H3 Z' (F' ++ [D]) ∧ RS X.K H3 Z' α' (L2.wipe σ own) F' ∧
        loopC own (fun d β k => wpG t d β k) (fun β k => wpT c ifs β k) (fun β k => wpE c me β k fun _ _ _ => False) gd (xs.drop (i + 1)) acc α' (fun ys α2 => P (.ol ys) (dat own α1 (Am.wipe own (ex α2)))) := fun α3 H3 Z3 F3 acc av hd hr ha st3 g3 rs wl => by
      obtain ⟨F4, rst4, rs5, p5⟩ := rs.wipe own
      rw [hw2] at rs5
      have pp : (F3 ++ [D]).Perm ((F4 ++ [D]) ++ rst4) := (List.Perm.append_right [D] p5).trans assoc3'
      exact ⟨_, by omega, rfl, Am.wipe own α3, Z3, F4, acc, av, hd, hr, ha, (st3.permR pp).lessR fun _ h => List.mem_append_left _ h, (g3.perm pp).left, rs5, by rw [e2]; exact wl⟩
    -- the item
    have elt : ∀ α3 H3 Z3 F3, Step (upd H1 D (.lst [])) Z1 (F1 ++ [D]) H3 Z3 (F3 ++ [D]) → G3 H3 Z3 (F3 ++ [D]) → RS X.K H3 Z3 α3 σ2 F3 → H3 D = some (.lst av) → RDs X.K H3 Z3 acc av →
        (wpE c me α3 (fun v α4 => onO (toD v) fun d => loopC own (fun d β k => wpG t d β k) (fun β k => wpT c ifs β k) (fun β k => wpE c me β k fun _ _ _ => False) gd r (acc ++ [d]) (Am.wipe own α4) fun ys α2 => P (.ol ys) (dat own α1 (Am.wipe own (ex α2)))) fun _ _ _ => False) →
        tE X.K rx c W0 me σ2 H3 fun y H4 => ∃ acc, H4 D = some (.lst acc) ∧ acc.length < sizeLine ∧ (fun H2 => ∃ m', m' < xs.length - i ∧ m' = xs.length - (i + 1) ∧ ∃ α' Z' F' acc av, H2 D = some (.lst av) ∧ RDs X.K H2 Z' acc av ∧ acc.length ≤ i + 1 ∧ Step (upd H1 D (.lst [])) Z1 (F1 ++ [D]) H2 Z' (F' ++ [D]) ∧ G3 H2 Z' (F' ++ [D]) ∧ RS X.K H2 Z' α' (L2.wipe σ own) F' ∧
          loopC own (fun d β k => wpG t d β k) (fun β k => wpT c ifs β k) (fun β k => wpE c me β k fun _ _ _ => False) gd (xs.drop (i + 1)) acc α' fun ys α2 => P (.ol ys) (dat own α1 (Am.wipe own (ex α2)))) (upd H4 D (.lst (acc ++ [y]))) := fun α3 H3 Z3 F3 st3 g3 rs hd3 hr3 we => by
      refine ⟨α3, Z3, F3, _, fun _ _ _ => False, rs, g3.left, we, fun v α4 hk H4 Z4 F4 y Fx s4 g4 rs4 r4 => ?_, fun _ _ _ h => h.elim⟩
      obtain ⟨d4, ed4, wl⟩ := onO.el hk
      have hDF3 : D ∉ F3 := fun hm => g3.dis D (by simp) hm
      have hd4 : H4 D = some (.lst av) := s4.fr D _ hd3 hDF3
      have hr4 : RDs X.K H4 Z4 acc av := RDs.keep (s4.keep g3.left) acc hr3
      have s5 := s4.beside g3
      have g5 := G3.beside g3 s4 g4
      have pp : ((F4 ++ Fx) ++ [D]).Perm ((F4 ++ [D]) ++ Fx) := assoc3'
      have s6 := ((st3.trans s5).permR pp).trans .frz
      have g6 := (g5.perm pp).frz
      have rd : RD X.K H4 (fun a => Z4 a ∨ a ∈ Fx) d4 y := r4.toD ed4
      have hr6 : RDs X.K H4 (fun a => Z4 a ∨ a ∈ Fx) (acc ++ [d4]) (av ++ [y]) := (RDs.keep (.z fun _ z => .inl z) acc hr4).app ⟨y, [], rfl, rd, rfl⟩
      have gD : G3 H4 (fun a => Z4 a ∨ a ∈ Fx) [D] := g6.right
      have sw : Step H4 (fun a => Z4 a ∨ a ∈ Fx) [D] (upd H4 D (.lst (av ++ [y]))) (fun a => Z4 a ∨ a ∈ Fx) [D] := .wr (by simp)
      have gp := g6.perm (List.perm_append_comm (l₁ := F4) (l₂ := [D]))
      have s7 := ((s6.permR (List.perm_append_comm (l₁ := F4) (l₂ := [D]))).trans (sw.beside gp)).permR (List.perm_append_comm (l₁ := [D]) (l₂ := F4))
      have g7 := (G3.beside gp sw (G3.wr (o := .lst (av ++ [y])) trivial gD)).perm (List.perm_append_comm (l₁ := [D]) (l₂ := F4))
      have hzl : av.length < sizeLine := by
        rw [← hr2.len, ← big_eq]
        omega
      exact ⟨av, hd4, hzl, fin0 α4 _ _ F4 (acc ++ [d4]) (av ++ [y]) upd_same (RDs.wr gD hr6) (by rw [List.length_append]; simp; omega) s7 g7 ((rs4.keepZ fun _ z => .inl z).frame gD sw gp.dis) wl⟩
    cases ifs with
    | nil =>
      unfold tTs tYes
      dsimp only
      rw [if_pos rfl]
      exact elt α2 H2 Z' F2 s3b g3b rs4 hd2 hr2 w2
    | cons mi rr =>
      cases rr with
      | cons _ _ => cases hifs
      | nil =>
        have w2 : wpE c mi α2 (fun v α3 => onB v fun b => ifB b (ifB true
          (wpE c me α3 (fun v α4 => onO (toD v) fun d => loopC own (fun d β k => wpG t d β k) (fun β k => wpT c (.cons mi .nil) β k) (fun β k => wpE c me β k fun _ _ _ => False) gd r (acc ++ [d]) (Am.wipe own α4) fun ys α2 => P (.ol ys) (dat own α1 (Am.wipe own (ex α2)))) fun _ _ _ => False)
          (loopC own (fun d β k => wpG t d β k) (fun β k => wpT c (.cons mi .nil) β k) (fun β k => wpE c me β k fun _ _ _ => False) gd r acc (Am.wipe own α3) fun ys α2 => P (.ol ys) (dat own α1 (Am.wipe own (ex α2)))))
          (ifB false (wpE c me α3 (fun v α4 => onO (toD v) fun d => loopC own (fun d β k => wpG t d β k) (fun β k => wpT c (.cons mi .nil) β k) (fun β k => wpE c me β k fun _ _ _ => False) gd r (acc ++ [d]) (Am.wipe own α4) fun ys α2 => P (.ol ys) (dat own α1 (Am.wipe own (ex α2)))) fun _ _ _ => False)
          (loopC own (fun d β k => wpG t d β k) (fun β k => wpT c (.cons mi .nil) β k) (fun β k => wpE c me β k fun _ _ _ => False) gd r acc (Am.wipe own α3) fun ys α2 => P (.ol ys) (dat own α1 (Am.wipe own (ex α2)))))) (fun _ _ _ => False) := w2
        refine ⟨α2, Z', F2, _, fun _ _ _ => False, rs4, g3, w2, fun v α3 hk H3 Z3 F3 y Fx s4 g4 rs5 r5 => ?_, fun _ _ _ h => h.elim⟩
        obtain ⟨b, rfl, hk⟩ := onB.el hk
        obtain ⟨ey, rfl⟩ := r5
        rw [List.append_nil] at s4 g4
        have hDF2 : D ∉ F2 := fun hm => g3b.dis D (by simp) hm
        have hd3 : H3 D = some (.lst av) := s4.fr D _ hd2 hDF2
        have hr3 : RDs X.K H3 Z3 acc av := RDs.keep (s4.keep g3b.left) acc hr2
        have s5 := s3b.trans (s4.beside g3b)
        have g5 := G3.beside g3b s4 g4
        refine ⟨b, ey, ?_⟩
        cases b with
        | true => exact elt α3 H3 Z3 F3 s5 g5 rs5 hd3 hr3 hk
        | false => exact fin0 α3 H3 Z3 F3 acc av hd3 hr3 (by omega) s5 g5 rs5 hk
theorem st_nil : PTs X [] (tTs X.K rx c .nil) := pts_nil
theorem st_one {e : Expr} (h : PT X e (tT X.K rx c W0 ma)) : PTs X [e] (tTs X.K rx c (.cons ma .nil)) := pts_one h
def sgOk (sg : List Bool) (own : List Nat) : Bool := (List.range sg.length).all fun i => !(getL sg i == some true) || own.contains i
theorem sgOk.el {sg : List Bool} {own : List Nat} (h : sgOk sg own = true) : ∀ i, getL sg i = some true → i ∈ own := fun i hi => by
  unfold sgOk at h
  have := List.all_eq_true.mp h i (List.mem_range.mpr (getL_lt hi))
  simp only [hi, beq_self_eq_true, Bool.not_true, Bool.false_or, List.contains_iff_mem] at this
  exact this
theorem s_lc {elt tg iter : Expr} {es : List Expr} {scope : Scope} {own : List (Str × Nat)} {sg : List Bool} (hc : X.calm = true) (hN : X.N.Nodup) (hi : PI X tg iter (tI X.K rx c W t it)) (ok : BlkOk X.N X.env.scope scope own)
    (hg : ∀ (s : Shared) (H : Hp) (C : Addr) (cl : List (Str × Addr)) (fp : List Addr), PG (X.blk s H scope (compEnvC scope cl C X.env) fp) tg (tG X.K sg t)) (ht : ∀ (s : Shared) (H : Hp) (C : Addr) (cl : List (Str × Addr)) (fp : List Addr), PTs (X.blk s H scope (compEnvC scope cl C X.env) fp) es (tTs X.K rx c ifs))
    (he : ∀ (s : Shared) (H : Hp) (C : Addr) (cl : List (Str × Addr)) (fp : List Addr), PE (X.blk s H scope (compEnvC scope cl C X.env) fp) elt (tE X.K rx c W0 me)) (hsg : sgOk sg (own.map (·.2)) = true := by rfl) (hifs : okIfs ifs = true := by rfl)
    (hs : ∀ x, foldedSetIterable iter X.env x = pure x := by intro _; rfl) : PE X (.ListComp elt [⟨tg, iter, es, 0⟩] scope pos) (tE X.K rx c W (.lc me t it ifs (own.map (·.2)))) :=
  PE.weak (pe_lc hc hN hi ok hg ht he hs) fun σ H Q h => lc_run hifs (sgOk.el hsg) h
theorem s_setLc {elt tg iter : Expr} {es : List Expr} {scope : Scope} {own : List (Str × Nat)} {sg sg' : List Bool} {i : Nat} {y : Str} {py spos : Pos} (hc : X.calm = true) (hN : X.N.Nodup) (hi : PI X tg iter (tI X.K rx c W t it)) (ok : BlkOk X.N X.env.scope scope own)
    (hg : ∀ (s : Shared) (H : Hp) (C : Addr) (cl : List (Str × Addr)) (fp : List Addr), PG (X.blk s H scope (compEnvC scope cl C X.env) fp) tg (tG X.K sg t)) (ht : ∀ (s : Shared) (H : Hp) (C : Addr) (cl : List (Str × Addr)) (fp : List Addr), PTs (X.blk s H scope (compEnvC scope cl C X.env) fp) es (tTs X.K rx c ifs))
    (he : ∀ (s : Shared) (H : Hp) (C : Addr) (cl : List (Str × Addr)) (fp : List Addr), PE (X.blk s H scope (compEnvC scope cl C X.env) fp) elt (tE X.K rx c W0 me)) (hy : X.N[i]? = some y := by rfl) (hyg : getL sg' i = some true := by rfl) (hyl : X.env.scope.names.lookup y = some .local := by rfl)
    (hsw : swapsWith (.ListComp elt [⟨tg, iter, es, 0⟩] scope pos) (some (.Name y py)) spos.line X.env = pure true := by rfl)
    (hsg : sgOk sg (own.map (·.2)) = true := by rfl) (hifs : okIfs ifs = true := by rfl)
    (hs : ∀ x, foldedSetIterable iter X.env x = pure x := by intro _; rfl) : PS X (.Assign [.Name y py] (.ListComp elt [⟨tg, iter, es, 0⟩] scope pos) spos) (tS X.K rx c W sg' (.asg (.pl (.v i)) (.lc me t it ifs (own.map (·.2))))) :=
  PS.weak (ps_setLc hc hN hy hyl hsw hi ok hg ht he hs) fun D σ H ⟨α, Z, F, N, X', I, w⟩ => by
  have h : tE X.K rx c W (.lc me t it ifs (own.map (·.2))) σ H (fun x H1 => gName i x σ H1 D.nx) := by
    have w : wpE c (.lc me t it ifs (own.map (·.2))) α (fun v α1 => N.nx (setS α1 i (some v))) X' := w
    refine I.val w fun v α1 H1 Z1 F1 x Fx w1 I1 s1 g1 r1 => ?_
    obtain ⟨F2, I2⟩ := I.put s1 g1 I1.rs r1 hyg
    exact I2.nxt w1
  exact lc_run hifs (sgOk.el hsg) h
end
section
variable {X : Cx} {rx : RX} {c : Am.Ctx} {W : WX} {sg : List Bool} {a b : Expr} {pos : Pos} {ma mb : ME}
theorem s_par {i j : Nat} {x y : Str} {px py pt : Pos} {kt k2 pt2} (hc : X.calm = true) (hN : X.N.Nodup) (ha : PA X [a, b] (tEs X.K rx c W (.cons ma (.cons mb .nil)))) (hi : X.N[i]? = some x := by rfl) (hj : X.N[j]? = some y := by rfl) (hij : i ≠ j := by decide)
    (hgi : getL sg i = some true := by rfl) (hgj : getL sg j = some true := by rfl)
    (hx : X.env.scope.names.lookup x = some .local := by rfl) (hy : X.env.scope.names.lookup y = some .local := by rfl)
    (hw : swappedStores [.Tuple [.Name x px, .Name y py] kt pt] (.Tuple [a, b] k2 pt2) X.env = pure (some [x, y]) := by rfl)
    (hs : swapsWithSole [.Tuple [.Name x px, .Name y py] kt pt] (.Tuple [a, b] k2 pt2) pos.line X.env = pure false := by rfl) :
    PS X (.Assign [.Tuple [.Name x px, .Name y py] kt pt] (.Tuple [a, b] k2 pt2) pos) (tS X.K rx c W sg (.par i j ma mb)) := PS.weak (ps_par hc hN hi hj hij hx hy ha hw hs) fun D σ H ⟨α, Z, F, N, X', I, w⟩ => by
  have w : wpEs c (.cons ma (.cons mb .nil)) α (fun vs α1 => match vs with
    | [v, u] => N.nx (setS (setS α1 i (some v)) j (some u))
    | _ => False) X' := w
  refine I.vals w fun vs α1 H1 Z1 F1 xs Fx w1 I1 s1 g1 rl => ?_
  match vs, w1, rl with
  | [v, u], w1, rl =>
    obtain ⟨x1, q, Fa, Fb, rfl, rfl, ra, ⟨x2, q', Fc, Fd, rfl, rfl, rb, ⟨rfl, rfl⟩⟩⟩ := rl
    obtain ⟨F2, r2, rs2, p2⟩ := I1.rs.putV (i := i) ra
    obtain ⟨F3, r3, rs3, p3⟩ := rs2.putV (i := j) rb
    have pp : (F1 ++ (Fa ++ (Fc ++ []))).Perm (F3 ++ (r3 ++ r2)) := by
      rw [List.append_nil, ← List.append_assoc]
      refine (List.Perm.append_right Fc p2).trans ?_
      refine assoc3'.trans ?_
      exact (List.Perm.append_right r2 p3).trans (by rw [List.append_assoc])
    have I3 := I.next' (s1.permR pp) (g1.perm pp) ((Same.set hgi).trans (Same.set hgj)) rs3
    exact ⟨x1, x2, rfl, I3.nxt w1⟩
end
end Am

set_option maxHeartbeats 4000000
namespace Am
open PySem PySem.Spec PyProof.Rows L2
variable [CN]
/-- a def of the module -/
structure FD (K : PySem.W.Frag) (mg : Str → Option Value) (x : Str) (st : Stmt) (ps : List Str) (f : Addr) (fd : FuncData) : Prop where
  F : Fun K x x st f fd
  hm : mg x = some (.ref f)
  hk : PySem.W.keepIn K (.ref f) = true
  hb : Binds K fd ps []
theorem FD.d {P : Program} {w : World} {K : PySem.W.Frag} {mg : Str → Option Value} {base : Heap} {rx : RX} {x : Str} {st : Stmt} {ps : List Str} {f : Addr} {fd : FuncData} {k : Nat} {call : List AV → FP → FX → Prop} (h : FD K mg x st ps f fd)
    (o : FnOk P w K mg base (L2.CX P w) k f fd ps (spA K rx call)) : Def P w K mg base rx k call x := ⟨f, fd, ps, o, h.hm, h.hk, h.hb⟩
def spLaw (n : Nat) (K : PySem.W.Frag) : Sp := fun xs H Q E => ∃ (a : Addr) (ns : List Int), xs = [V.ref a] ∧ ns.length ≤ n ∧ BitsOk ns ∧ SqL K H a (ns.map V.int) ∧ ∀ H', Q (.bl true) H'
theorem law_sp {P : Program} {w : World} {K : PySem.W.Frag} {mg : Str → Option Value} {base : Heap} {rx : RX} {n k : Nat} {f : Addr} {fd : FuncData} {ps : List Str} {call : List AV → FP → FX → Prop} (o : FnOk P w K mg base (L2.CX P w) k f fd ps (spA K rx call))
    (hlaw : ∀ ns : List Int, ns.length ≤ n → BitsOk ns → call [.p (.lst (ns.map .int))] (fun v _ => v = .p (.bl true)) (fun _ _ _ => False)) : FnOk P w K mg base (L2.CX P w) k f fd ps (spLaw n K) := by
  have conv : ∀ xs H Q E, spLaw n K xs H Q E → spA K rx call xs H Q E := fun xs H Q E h => by
    obtain ⟨a, ns, rfl, hl, hbt, hs, q⟩ := h
    have zt : Zt H (fun b => b = a ∧ H b ≠ none) := fun b z => z.2
    have rd : RD K H (fun b => b = a ∧ H b ≠ none) (.lst (ns.map .int)) (.ref a) := by
      refine ⟨a, ns.map V.int, rfl, ?_, RDs.int ns⟩
      rcases hs with h | h
      · refine .inl ⟨⟨rfl, ?_⟩, h⟩
        rcases h with h | ⟨o, h⟩ <;> rw [h] <;> simp
      · exact .inr h
    exact ⟨_, [.p (.lst (ns.map .int))], [], _, _, ⟨.ref a, [], [], [], rfl, rfl, ⟨rd, rfl⟩, rfl, rfl⟩, g0 zt, hlaw ns hl hbt, fun v ws hv H' Z' x Fo Fr _ _ _ ra => by subst hv; rw [ra_bl ra]; exact q H', fun _ _ _ h => h.elim⟩
  exact ⟨fun vs H Q E h => o.len vs H Q E (conv _ _ _ _ h), fun A outer s H args us vs Q E hr h0 hb hv h => o.run A outer s H args us vs Q E hr h0 hb hv (conv _ _ _ _ h)⟩
omit [CN] in
theorem law_walk {l : PySem.W.OpenLaw} {n k : Nat} {q : Program} {loose : List Str} {XP : (Str → Option Value) → Heap → Prop} {YP : World → Heap → Prop} {d : DefRec} {K : Params → PySem.W.Frag} {x : Str}
    (hn : l.most = some n) (hn2 : n ≤ sizeLine) (hdf : d.params.defaults = []) (hr : Room k callerA)
    (hY : ∀ (w : World) (h : Heap), YP w h → (K w.params).In h)
    (F : ∀ (w : World) (mg : Str → Option Value) (fa : Addr) (h : Heap), (K w.params).In h → h.Ns mainGlobals mg → mg d.name = some (.ref fa) →
      ∃ fd : FuncData, (∀ (s : Shared) (u : Value), BindsTo s fd ⟨[u], []⟩ [(x, u)]) ∧
        ∀ base : Heap, (K w.params).In base → base.Ns mainGlobals mg → FnOk l.prog w (K w.params) mg base (L2.CX l.prog w) k fa fd [x] (spLaw n (K w.params))) :
    PySem.W.WalkO q loose XP YP l.row.toRowW d [] (fun f vs => PySem.call f vs) :=
  L2.walk_ofB (n := n) (k := k) (x := x) (CX := fun w => L2.CX l.prog w) (sp := fun w => spLaw n (K w.params)) hn hn2 hdf hr hY F (fun w H a ns hl hbt _ hS => ⟨a, ns, rfl, hl, hbt, hS, fun _ => rfl⟩) fun w H s e s' h => by
    obtain ⟨_, _, _, _, _, _, _, _, _, _, _, _, z⟩ := h
    exact z.elim
end Am

set_option maxHeartbeats 4000000
namespace Am
open PySem
@[reducible] def onSig : List Bool → List AV → Prop → Prop
  | [], [], A => A
  | true :: r, .p _ :: vs, A => onSig r vs A
  | false :: r, _ :: vs, A => onSig r vs A
  | _, _, _ => False
theorem onSig.el : ∀ {sg : List Bool} {vs : List AV} {A : Prop}, onSig sg vs A → (vs.length = sg.length ∧ ∀ j, getL sg j = some true → ∃ v, getL vs j = some (.p v)) ∧ A
  | [], [], A, h => ⟨⟨rfl, fun j e => by cases e⟩, h⟩
  | true :: r, .p d :: vs, A, h => by
    obtain ⟨⟨a, b⟩, c⟩ := onSig.el (sg := r) (vs := vs) h
    refine ⟨⟨by simp [a], fun j e => ?_⟩, c⟩
    cases j with
    | zero => exact ⟨d, rfl⟩
    | succ j => exact b j e
  | false :: r, v :: vs, A, h => by
    obtain ⟨⟨a, b⟩, c⟩ := onSig.el (sg := r) (vs := vs) h
    refine ⟨⟨by simp [a], fun j e => ?_⟩, c⟩
    cases j with
    | zero => cases e
    | succ j => exact b j e
/-- a def's call -/
theorem wp_fn {P : Prog} {k f : Nat} {d : Fn} {vs : List AV} {Q : FP} {X : FX} (hd : getL P.fns f = some d) (hn : d.np = d.sig.length) (w : onSig d.sig vs (wpSs (cx P k) d.body (padS vs d.ns) ⟨fun α => Q (.p .non) (outS d.sig α), fun v α => Q v (outS d.sig α)⟩ fun e ds α => X e ds (outS d.sig α))) :
    wpF0 P (k + 1) f vs Q X := by
  obtain ⟨⟨a, b⟩, w⟩ := onSig.el w
  show (match getL P.fns f with
    | none => False
    | some d => vs.length = d.np ∧ (∀ j, getL d.sig j = some true → ∃ v, getL vs j = some (.p v)) ∧
      wpSs ⟨wpF0 P k, fun g => match getL P.fns g with | some e => e.sig | none => [], P.sub, P.cls⟩ d.body (padS vs d.ns)
        ⟨fun α => Q (.p .non) (outS d.sig α), fun v α => Q v (outS d.sig α)⟩ fun e ds α => X e ds (outS d.sig α))
  rw [hd]
  exact ⟨a.trans hn.symm, b, w⟩
theorem ifB_d {p : Prop} [Decidable p] {A B : Prop} (h1 : p → A) (h2 : ¬ p → B) : ifB (decide p) A B := by
  by_cases h : p
  · rw [decide_eq_true h]; exact h1 h
  · rw [decide_eq_false h]; exact h2 h
theorem ifB_n {p : Prop} [Decidable p] {A B : Prop} (h1 : ¬ p → A) (h2 : p → B) : ifB (nb (decide p)) A B := by
  by_cases h : p
  · rw [decide_eq_true h]; exact h2 h
  · rw [decide_eq_false h]; exact h1 h
theorem ifB_b {b : Bool} {A B : Prop} (h1 : b = true → A) (h2 : b = false → B) : ifB b A B := by
  cases b
  · exact h2 rfl
  · exact h1 rfl
theorem onO_s {α : Type} {o : Option α} {x : α} {k : α → Prop} (e : o = some x) (h : k x) : onO o k := by rw [e]; exact h
/-- a walk along a list, by an invariant over what is left -/
theorem loopW_inv {g : D → Sl → (Sl → Prop) → Prop} {w : Sl → (Sl → Prop) → Prop} {gd : Sl → Prop} {k : Sl → Prop} (I : List D → Sl → Prop) (turn : ∀ x r α, I (x :: r) α → gd α ∧ ∀ k', (∀ β, I r β → k' β) → g x α fun α1 => w α1 k') (stop : ∀ α, I [] α → gd α ∧ k α) :
    ∀ (xs : List D) (α : Sl), I xs α → loopW g w gd xs α k
  | [], α, h => stop α h
  | x :: r, α, h => ⟨(turn x r α h).1, (turn x r α h).2 _ fun β hb => loopW_inv I turn stop r β hb⟩
end Am

set_option maxHeartbeats 4000000
namespace Am
open PySem PySem.Spec PyProof.Rows L2 TL
variable [CN]
def Mt.nm : Mt → Str
  | .join => "join" | .split => "split" | .index => "index" | .get => "get" | .find => "find" | .count => "count" | .upper => "upper" | .replace => "replace" | .values => "values" | .indexD => "index"
theorem tl_sT (s : T) : tl (sT s) = s := tl_mk s
theorem joinL_eq (sep : T) : ∀ ss : List T, joinL sep ss = joinT sep ss
  | [] => rfl
  | [_] => rfl
  | x :: y :: r => by
    show x ++ (sep ++ joinL sep (y :: r)) = x ++ sep ++ joinT sep (y :: r)
    rw [joinL_eq sep (y :: r), List.append_assoc]
theorem join_sT (sep : T) (ss : List T) : Txt.join (sT sep) (ss.map sT) = sT (joinT sep ss) := by
  refine ext_tl ?_
  rw [join_eq, tl_join, tl_sT, tl_sT, List.map_map]
  have : (tl ∘ sT) = id := funext fun s => tl_sT s
  rw [this, List.map_id, joinL_eq]
theorem spl_T (c : Nat) : ∀ (a acc : T), spl [c] 0 acc a = splT c acc a
  | [], acc => by unfold spl splT; rfl
  | x :: r, acc => by
    show (if TL.pre [c] (x :: r) = true then acc :: spl [c] ([c].length - 1) [] r else spl [c] 0 (acc ++ [x]) r) = if x = c then acc :: splT c [] r else splT c (acc ++ [x]) r
    have e : TL.pre [c] (x :: r) = true ↔ x = c := by
      unfold TL.pre
      simp
    by_cases h : x = c
    · rw [if_pos (e.mpr h), if_pos h]
      show acc :: spl [c] 0 [] r = _
      rw [spl_T c r []]
    · rw [if_neg (fun z => h (e.mp z)), if_neg h, spl_T c r _]
theorem split_sT (a : T) {c : Nat} (hc : c < 256) : Txt.split (sT a) (sT [c]) = (splT c [] a).map sT := by
  refine map_tl_inj ?_
  have e := split_spl (sT a) (sT [c]) (by rw [tl_sT]; simp) (kind_ok (by
    show (sT [c]).cps.all (· < 256) = true
    rw [← Array.all_toList]
    show [c].all (· < 256) = true
    simp [hc]))
  rw [e, tl_sT, tl_sT, List.map_map]
  have : (tl ∘ sT) = id := funext fun s => tl_sT s
  rw [this, List.map_id, spl_T]
theorem rds_strs {K : PySem.W.Frag} {H : Hp} {Z : ZP} : ∀ ss : List T, RDs K H Z (ss.map .str) ((ss.map sT).map V.str)
  | [] => rfl
  | _ :: r => ⟨_, _, rfl, rfl, rds_strs r⟩
theorem strs_at : ∀ {ds : List D} {ss : List T} {i : Nat} {d : D}, strs? ds = some ss → ds[i]? = some d → ∃ s, d = .str s ∧ ss[i]? = some s
  | [], _, i, _, _, h => by simp at h
  | d :: r, ss, i, e, h, hi => by
    cases d with
    | str s =>
      have h : (strs? r).map (s :: ·) = some ss := h
      obtain ⟨l, e1, rfl⟩ := Option.map_eq_some_iff.mp h
      cases i with
      | zero => exact ⟨s, by simpa using hi.symm, rfl⟩
      | succ i =>
        obtain ⟨t, a, b⟩ := strs_at (i := i) e1 (by simpa using hi)
        exact ⟨t, a, by simpa using b⟩
    | _ => cases h
section
variable {K : PySem.W.Frag} {H : Hp} {Z : ZP}
theorem RDs.strs : ∀ {ds : List D} {vs : List V} {ss : List T}, RDs K H Z ds vs → strs? ds = some ss → vs = (ss.map sT).map V.str
  | [], _, _, h, e => by cases e; cases h; rfl
  | d :: r, _, ss, ⟨x, q, e1, h3, h4⟩, e => by
    subst e1
    cases d with
    | str s =>
      have e : (strs? r).map (s :: ·) = some ss := e
      obtain ⟨l, e2, rfl⟩ := Option.map_eq_some_iff.mp e
      cases h3
      rw [RDs.strs h4 e2]
      rfl
    | _ => cases e
theorem RD.flat {d : D} {x : V} (h : RD K H Z d x) (f : flatD d = true) : flatV x = true := by
  cases d with
  | non => cases h; rfl
  | bl b => cases h; rfl
  | int b => cases h; rfl
  | str b => cases h; rfl
  | _ => cases f
theorem RDs.flat : ∀ {ds : List D} {vs : List V}, RDs K H Z ds vs → ds.all flatD = true → vs.all flatV = true
  | [], _, h, _ => by cases h; rfl
  | d :: r, _, ⟨x, q, e1, h3, h4⟩, f => by
    subst e1
    simp only [List.all_cons, Bool.and_eq_true] at f ⊢
    exact ⟨h3.flat f.1, RDs.flat h4 f.2⟩
theorem sT_beq (s t : T) : (sT s == sT t) = decide (s = t) := by
  by_cases h : s = t
  · subst h; simp
  · have : sT s ≠ sT t := fun e => h (sT_inj e)
    simp [h, this]
theorem RD.eqV {d e : D} {x y : V} (h : RD K H Z d x) (f : flatD d = true) (h2 : RD K H Z e y) (f2 : flatD e = true) : L2.eqV x y = eqD d e := by
  cases d with
  | non => cases h; cases e <;> first | (cases h2; rfl) | cases f2
  | bl b => cases h; cases e <;> first | (cases h2; rfl) | (cases h2; cases b <;> rfl) | cases f2
  | int b => cases h; cases e <;> first | (cases h2; rfl) | cases f2
  | str b =>
    cases h
    cases e with
    | str c => cases h2; exact sT_beq b c
    | non => cases h2; rfl
    | bl _ => cases h2; rfl
    | int _ => cases h2; rfl
    | _ => cases f2
  | _ => cases f
end
theorem idxD_some : ∀ {x : D} {xs : List D} {i : Nat}, idxD x xs = some i → (∃ z, xs[i]? = some z ∧ eqD z x = true) ∧ ∀ m z, m < i → xs[m]? = some z → eqD z x = false
  | x, [], i, h => by cases h
  | x, y :: r, i, h => by
    have h : (if eqD y x then some 0 else (idxD x r).map (· + 1)) = some i := h
    by_cases e : eqD y x = true
    · rw [if_pos e] at h
      cases h
      exact ⟨⟨y, rfl, e⟩, fun m z hm => absurd hm (by omega)⟩
    · rw [if_neg e] at h
      obtain ⟨j, ej, rfl⟩ := Option.map_eq_some_iff.mp h
      obtain ⟨⟨z, a, b⟩, c⟩ := idxD_some ej
      refine ⟨⟨z, by simpa using a, b⟩, fun m z hm hz => ?_⟩
      cases m with
      | zero => cases (show some y = some z by simpa using hz); simpa using e
      | succ m => exact c m z (by omega) (by simpa using hz)
theorem idxT_some : ∀ {x : T} {xs : List T} {i : Nat}, idxT x xs = some i → xs[i]? = some x ∧ ∀ m, m < i → xs[m]? ≠ some x
  | x, [], i, h => by cases h
  | x, y :: r, i, h => by
    have h : (if y = x then some 0 else (idxT x r).map (· + 1)) = some i := h
    by_cases e : y = x
    · rw [if_pos e] at h
      cases h
      exact ⟨by rw [e]; rfl, fun m hm => absurd hm (by omega)⟩
    · rw [if_neg e] at h
      obtain ⟨j, ej, rfl⟩ := Option.map_eq_some_iff.mp h
      obtain ⟨a, c⟩ := idxT_some ej
      refine ⟨by simpa using a, fun m hm hz => ?_⟩
      cases m with
      | zero => exact e (by simpa using hz)
      | succ m => exact c m (by omega) (by simpa using hz)
section
variable {X : Cx}
theorem mt_get2 (hu : X.A.units + 1 < cLine) : MtR X "dict.get" (fun x xs H Q => ∃ a y z o, x = .ref a ∧ xs = [y, z] ∧ DGet H a y o ∧ Q (o.getD z) H) := by
  intro pins s σ H x xs v us Q I rx rs h
  obtain ⟨a, y, z, o, rfl, rfl, hg, q⟩ := h
  cases rx
  cases rs with
  | cons r1 rs =>
    cases rs with
    | cons r2 rs =>
      cases rs
      exact d_get2 hu I hg r1 r2 fun w' s' I' rw' => ⟨_, H, I', rw', q⟩
end
theorem place_py {d : D} (hd : d.dep ≤ 180) : ∀ {ds : List D}, depL ds ≤ 180 → SeqAt.dataPlace (toPys ds) (toPy d) = idxD d ds
  | [], _ => rfl
  | y :: r, h => by
    simp only [depL] at h
    have ih := place_py hd (ds := r) (by omega)
    show List.findIdx? (fun y => PyData.eqv y (toPy d)) (toPy y :: toPys r) = if eqD y d then some 0 else (idxD d r).map (· + 1)
    rw [List.findIdx?_cons, eqD_py y d (by omega) hd, ← ih]
    rfl
theorem count_py {d : D} (hd : d.dep ≤ 180) : ∀ {ds : List D}, depL ds ≤ 180 → (toPys ds).countP (fun y => PyData.eqv y (toPy d)) = countD d ds
  | [], _ => rfl
  | y :: r, h => by
    simp only [depL] at h
    have ih := count_py hd (ds := r) (by omega)
    show (toPy y :: toPys r).countP (fun y => PyData.eqv y (toPy d)) = ((y :: r).filter fun y => eqD y d).length
    unfold countD at ih
    rw [List.countP_cons, List.filter_cons, eqD_py y d (by omega) hd, ih]
    cases eqD y d <;> simp
section
variable {X : Cx}
def rIdxD (K : PySem.W.Frag) (t : Bool) : V → List V → Hp → VK → Prop := fun x xs H Q => ∃ (a : Addr) (y : V) (Z Z' : ZP) (vs : List V) (ds : List D) (d : D) (i : Nat), x = .ref a ∧ xs = [y] ∧ (if t then SqT K H a vs else SqL K H a vs) ∧ RDs K H Z ds vs ∧ RD K H Z' d y ∧ d.dep ≤ 180 ∧ depL ds ≤ 180 ∧ idxD d ds = some i ∧ Q (.int (i : Nat)) H
theorem mt_idxL (hu : X.A.units + 190 < cLine) : MtR X "list.index" (rIdxD X.K false) := by
  intro pins s σ H x xs v us Q I rx rxs h
  obtain ⟨a, y, Z, Z', vs, ds, d, i, rfl, rfl, hs, hr, hy, dd, dl, ei, q⟩ := h
  cases rx
  cases rxs with
  | cons ry rt =>
    rename_i uy ut
    cases rt
    obtain ⟨bs, r1⟩ := RD.reads I d hy ry dd
    obtain ⟨its, rv, ⟨⟨cls, od, data, sls⟩, n, ho, hc, hdn, hdt⟩, hlen⟩ := I.list hs
    simp only at hc hdt
    subst hc hdt
    obtain ⟨as, h4⟩ := RDs.reads I ds hr rv dl
    have p1 := toPy_plain d dd
    have p2 := toPys_plain ds dl
    have room : X.A.units + 1 + min (PyData.depthAll (toPys ds)) (toPy d).depth < cLine := by
      have := Nat.min_le_right (PyData.depthAll (toPys ds)) (toPy d).depth
      omega
    have hp : SeqAt.dataPlace (toPys ds) (toPy d) = some i := (place_py dd dl).trans ei
    have h4' : ReadsAll s.heap its.toArray.toList (toPys ds) as := h4
    obtain ⟨hj, hit, hno⟩ := SeqAt.hit_at (vs := its.toArray) h4' p2.1 hp
    have hvl := rv.length
    have hsl := sizeLine_eq
    have hj2 : i < its.length := by simpa using hj
    exact call_meets PySem.F.slot_list_index ⟨_, ho, rfl⟩ PySem.F.entry_list_index (PySem.F.args_list_index_2 _ _)
      (SeqAt.list_indexAt a its.toArray n od sls uy (fun u => PyData.eqv (SeqAt.readOf s.heap u) (toPy d)) i hj (by omega) hit hno) ⟨ho, SeqAt.items_plain (vs := its.toArray) h4' r1 p2.1 p1.1 room, ⟨.int (i : Nat), H, I.tok _, ⟨_, rfl⟩, q⟩⟩
theorem mt_idxTu (hu : X.A.units + 190 < cLine) : MtR X "tuple.index" (rIdxD X.K true) := by
  intro pins s σ H x xs v us Q I rx rxs h
  obtain ⟨a, y, Z, Z', vs, ds, d, i, rfl, rfl, hs, hr, hy, dd, dl, ei, q⟩ := h
  cases rx
  cases rxs with
  | cons ry rt =>
    rename_i uy ut
    cases rt
    obtain ⟨bs, r1⟩ := RD.reads I d hy ry dd
    obtain ⟨its, rv, pl, hz⟩ := I.tuple hs
    obtain ⟨⟨cls, od, data, sls⟩, ho, hc, n, hdt⟩ := pl
    simp only at hc hdt
    subst hc hdt
    obtain ⟨as, h4⟩ := RDs.reads I ds hr rv dl
    have p1 := toPy_plain d dd
    have p2 := toPys_plain ds dl
    have room : X.A.units + 1 + min (PyData.depthAll (toPys ds)) (toPy d).depth < cLine := by
      have := Nat.min_le_right (PyData.depthAll (toPys ds)) (toPy d).depth
      omega
    have hp : SeqAt.dataPlace (toPys ds) (toPy d) = some i := (place_py dd dl).trans ei
    have h4' : ReadsAll s.heap its.toArray.toList (toPys ds) as := h4
    obtain ⟨hj, hit, hno⟩ := SeqAt.hit_at (vs := its.toArray) h4' p2.1 hp
    exact call_meets PySem.F.slot_tuple_index ⟨_, ho, rfl⟩ PySem.F.entry_tuple_index (PySem.F.args_tuple_index_2 _ _)
      (TI.tuple_indexAt a its.toArray n od sls uy (fun u => PyData.eqv (SeqAt.readOf s.heap u) (toPy d)) i hj hit hno) ⟨ho, SeqAt.items_plain (vs := its.toArray) h4' r1 p2.1 p1.1 room, ⟨.int (i : Nat), H, I.tok _, ⟨_, rfl⟩, q⟩⟩
def rCntD (K : PySem.W.Frag) : V → List V → Hp → VK → Prop := fun x xs H Q => ∃ (a : Addr) (y : V) (Z Z' : ZP) (vs : List V) (ds : List D) (d : D), x = .ref a ∧ xs = [y] ∧ SqL K H a vs ∧ RDs K H Z ds vs ∧ RD K H Z' d y ∧ d.dep ≤ 180 ∧ depL ds ≤ 180 ∧ Q (.int (countD d ds : Nat)) H
theorem mt_cntD (hu : X.A.units + 190 < cLine) : MtR X "list.count" (rCntD X.K) := by
  intro pins s σ H x xs v us Q I rx rxs h
  obtain ⟨a, y, Z, Z', vs, ds, d, rfl, rfl, hs, hr, hy, dd, dl, q⟩ := h
  cases rx
  cases rxs with
  | cons ry rt =>
    rename_i uy ut
    cases rt
    obtain ⟨bs, r1⟩ := RD.reads I d hy ry dd
    obtain ⟨its, rv, p, hlen⟩ := I.list hs
    obtain ⟨as, h4⟩ := RDs.reads I ds hr rv dl
    have p1 := toPy_plain d dd
    have p2 := toPys_plain ds dl
    have room : X.A.units + 1 + min (PyData.depthAll (toPys ds)) (toPy d).depth < cLine := by
      have := Nat.min_le_right (PyData.depthAll (toPys ds)) (toPy d).depth
      omega
    exact SeqAt.count_list_data (vs := its.toArray) p.isList (show ReadsAll s.heap its.toArray.toList (toPys ds) as from h4) r1 p2.1 p1.1 room (by rw [count_py dd dl]; exact ⟨.int (countD d ds : Nat), H, I.tok _, ⟨_, rfl⟩, q⟩)
end
section
variable {X : Cx} {rx : RX} {c : Am.Ctx} {W : WX} {a b d e : Expr} {rest es : List Expr} {pos : Pos} {ma mb md : ME} {ms : MEs}
theorem onMt.el {m : Mt} {k : Kn} {A : Prop} (h : onMt m k A) : A := by
  cases m <;> cases k <;> first | exact h | exact h.elim
theorem onSame.el {a b : Kn} {A : Prop} (h : onSame a b A) : a = b ∧ A := by
  cases a <;> cases b <;> first | exact ⟨rfl, h⟩ | exact h.elim
theorem meth_run {m : Mt} {σ : L2.St} {H : Hp} {Q : VK} (hu : X.A.units + 190 < cLine) (h1 : okO ma = true) (h : tE X.K rx c W (.meth m ma ms) σ H Q) : tBX X m.nm (tO X.K rx c W ma) (tEl X.K rx c W ms) σ H Q := by
  obtain ⟨α, Z, F, P, X', I, w⟩ := tE.el h
  refine I.opd h1 w fun v α1 H1 Z1 F1 x Fx w1 I1 s1 g1 o1 => ?_
  obtain ⟨v1, Fv, r1, w2⟩ := o1.fetch I1.rs w1
  -- the arguments, then the method
  have go : ∀ {T id : String} {r : V → List V → Hp → VK → Prop}, MtK X T m.nm id r → tyA X.K T x H1 →
      (∀ v2 vs xs H2 Z2 F2 (k : AV → Prop) (Q' : VK), Zt H2 Z2 → kindA v1 = kindA v2 → RA X.K H2 Z2 v2 x F2 → RLr X.K H2 Z2 vs xs → methQ m v2 vs k → ResP X.K H2 Z2 k Q' → r x xs H2 Q') →
      ∃ T id r, MtK X T m.nm id r ∧ tyA X.K T x H1 ∧ tEl X.K rx c W ms σ H1 fun xs H2 => r x xs H2 Q := fun {T id r} mk ty hr => by
    refine ⟨T, id, r, mk, ty, I1.opds (onMt.el w2) fun vs α2 H2 Z2 F2 xs Fr w3 I2 s2 g2 ol => ?_⟩
    obtain ⟨v2, Fv2, r2, w4⟩ := (o1.frame g1 s2).fetch I2.rs w3
    obtain ⟨ek, w5⟩ := onSame.el w4
    obtain ⟨us, ru, w6⟩ := ol.read I2.rs w5
    exact hr v2 us xs H2 Z2 Fv2 _ Q I2.g.zt ek r2 ru w6 I2.res
  have kl : kindA v1 = .l → tyA X.K "list" x H1 := fun ek => by
    have : ∃ ds, list? v1 = some ds := by
      cases v1 with
      | p d => cases d <;> first | exact ⟨_, rfl⟩ | cases ek
      | ol ds => exact ⟨_, rfl⟩
      | ll a ds => exact ⟨_, rfl⟩
      | _ => cases ek
    obtain ⟨ds, el⟩ := this
    obtain ⟨l0, vs0, rfl, q0, _⟩ := r1.list el
    exact .inl ⟨rfl, vs0, q0⟩
  have kt : kindA v1 = .t → tyA X.K "tuple" x H1 := fun ek => by
    cases v1 with
    | p d =>
      cases d with
      | tup ds => obtain ⟨a, vs, rfl, q, _⟩ := r1.1; exact .inr (.inl ⟨rfl, vs, q⟩)
      | _ => cases ek
    | _ => cases ek
  have ks : kindA v1 = .s → tyA X.K "str" x H1 := fun ek => by
    cases v1 with
    | p d =>
      cases d with
      | str s => cases ra_str r1; rfl
      | _ => cases ek
    | _ => cases ek
  have kd : kindA v1 = .d → tyA X.K "dict" x H1 := fun ek => by
    have : ∃ ds, dict? v1 = some ds := by
      cases v1 with
      | p d => cases d <;> first | exact ⟨_, rfl⟩ | cases ek
      | od ds => exact ⟨_, rfl⟩
      | ld a ds => exact ⟨_, rfl⟩
      | _ => cases ek
    obtain ⟨ds, el⟩ := this
    obtain ⟨l0, vs0, rfl, q0, _⟩ := r1.dict el
    exact .inr (.inr ⟨rfl, vs0, q0⟩)
  cases ek : kindA v1 with
  | s =>
    cases m with
    | join =>
      refine go ⟨PySem.F.plainAttrs_str, PySem.F.slot_str_join, PySem.F.type_str_join, mt_join⟩ (ks ek) fun v2 vs xs H2 Z2 F2 k Q' zt ek2 r2 rl wq res => ?_
      match vs, wq, rl with
      | [y], wq, rl =>
        obtain ⟨sep, rfl, wq⟩ := onS.el wq
        obtain ⟨ds, es, wq⟩ := onO.el wq
        obtain ⟨ss, ess, hz, wq⟩ := onO.el wq
        obtain ⟨y', Fy, rfl, ry⟩ := rl.one'
        obtain ⟨p, ws, rfl, h1, h2⟩ := ry.seq es
        cases ra_str r2
        rw [h2.strs ess] at h1
        refine ⟨sT sep, p, ss.map sT, rfl, rfl, h1.imp id TF.sq, ?_, ?_⟩
        · have e : ((ss.map sT).map (·.length)) = ss.map List.length := by
            rw [List.map_map]
            exact List.map_congr_left fun s _ => sT_len s
          rw [e, List.length_map, sT_len]
          have := hz
          unfold joinN big at this
          exact this
        · rw [join_sT]
          exact res.d wq rfl
    | split =>
      refine go ⟨PySem.F.plainAttrs_str, PySem.F.slot_str_split, PySem.F.type_str_split, mt_split⟩ (ks ek) fun v2 vs xs H2 Z2 F2 k Q' zt ek2 r2 rl wq res => ?_
      match vs, wq, rl with
      | [y], wq, rl =>
        obtain ⟨a', rfl, wq⟩ := onS.el wq
        obtain ⟨b', rfl, wq⟩ := onS.el wq
        match b', wq, rl with
        | [c'], wq, rl =>
          obtain ⟨hc', hz, wq⟩ := wq
          obtain ⟨y', Fy, rfl, ry⟩ := rl.one'
          cases ra_str r2
          cases ra_str ry
          refine ⟨sT a', sT [c'], rfl, rfl, rfl, by rw [sT_len]; exact hz, fun p hp => ?_⟩
          rw [split_sT a' hc']
          exact res.lst zt wq (rds_strs _) hp
    | upper =>
      refine go ⟨PySem.F.plainAttrs_str, PySem.F.slot_str_upper, PySem.F.type_str_upper, mt_upper⟩ (ks ek) fun v2 vs xs H2 Z2 F2 k Q' zt ek2 r2 rl wq res => ?_
      match vs, wq, rl with
      | [], wq, rl =>
        obtain ⟨s, rfl, hz, wq⟩ : ∃ s : T, v2 = .p (.str s) ∧ s.length ≤ 1000000 ∧ ∀ t : T, t.length ≤ 3 * s.length → k (.p (.str t)) := by
          cases v2 with
          | p d => cases d <;> first | exact ⟨_, rfl, wq⟩ | exact wq.elim
          | _ => exact wq.elim
        cases ra_str r2
        have el : xs = [] := rl
        have e : Txt.upper (sT s) = sT (tl (Txt.upper (sT s))) := ext_tl (tl_sT _).symm
        have l1 : (Txt.upper (sT s)).length ≤ 3 * (sT s).length := PyProof.Rows.len_upper _
        rw [sT_len] at l1
        have l2 : (tl (Txt.upper (sT s))).length = (Txt.upper (sT s)).length := by
          have := sT_len (tl (Txt.upper (sT s)))
          rw [← e] at this
          exact this.symm
        refine ⟨sT s, rfl, el, by rw [sT_len]; omega, ?_⟩
        rw [e]
        exact res.d (wq _ (by rw [l2]; exact l1)) rfl
    | _ => rw [ek] at w2; exact w2.elim
  | l =>
    cases m with
    | index =>
      refine go ⟨PySem.F.plainAttrs_list, PySem.F.slot_list_index, PySem.F.type_list_index, mt_index⟩ (kl ek) fun v2 vs xs H2 Z2 F2 k Q' zt ek2 r2 rl wq res => ?_
      rw [ek] at ek2
      match vs, wq, rl with
      | [y], wq, rl =>
        have wq : onO (list? v2) fun xs => onO (toD y) fun d => flatD d = true ∧ xs.all flatD = true ∧ onO (idxD d xs) fun i => k (.p (.int i)) := by
          cases v2 with
          | p d => cases d <;> first | exact wq | cases ek2
          | _ => exact wq
        obtain ⟨ds, es, wq⟩ := onO.el wq
        obtain ⟨d, ed, f1, f2, wq⟩ := onO.el wq
        obtain ⟨i, ei, wq⟩ := onO.el wq
        obtain ⟨y', Fy, rfl, ry⟩ := rl.one'
        obtain ⟨p, ws, rfl, h1, h2⟩ := r2.list es
        have rd := ry.toD ed
        obtain ⟨⟨z, hz, ez⟩, before⟩ := idxD_some ei
        obtain ⟨x', e1, rz⟩ := h2.at hz
        have fz : flatD z = true := List.all_eq_true.mp f2 z (List.mem_of_getElem? hz)
        have rz' : RD X.K H2 (fun a => Z2 a ∨ a ∈ Fy) z x' := RD.keep (.z fun _ h => .inl h) z rz
        refine ⟨p, ws, y', i, x', rfl, rfl, h1, rd.flat f1, h2.flat f2, e1, ?_, fun m z' hm hz' => ?_, res.d wq rfl⟩
        · rw [rz'.eqV fz rd f1]; exact ez
        · have hm' : m < ds.length := by
            have := (List.getElem?_eq_some_iff.mp hz').1
            rw [← h2.len] at this
            exact this
          obtain ⟨x2, e2, r2⟩ := h2.at (List.getElem?_eq_getElem hm')
          rw [hz'] at e2
          cases e2
          have r2' : RD X.K H2 (fun a => Z2 a ∨ a ∈ Fy) ds[m] z' := RD.keep (.z fun _ h => .inl h) _ r2
          rw [r2'.eqV (List.all_eq_true.mp f2 _ (List.getElem_mem hm')) rd f1]
          exact before m ds[m] hm (List.getElem?_eq_getElem hm')
    | indexD =>
      refine go ⟨PySem.F.plainAttrs_list, PySem.F.slot_list_index, PySem.F.type_list_index, mt_idxL hu⟩ (kl ek) fun v2 vs xs H2 Z2 F2 k Q' zt ek2 r2 rl wq res => ?_
      rw [ek] at ek2
      match vs, wq, rl with
      | [y], wq, rl =>
        obtain ⟨ds, es, wq⟩ := onO.el wq
        have es : list? v2 = some ds := by
          cases v2 with
          | p d => cases d <;> first | exact es | cases ek2
          | _ => exact es
        obtain ⟨d, ed, f1, f2, wq⟩ := onO.el wq
        obtain ⟨i, ei, wq⟩ := onO.el wq
        obtain ⟨y', Fy, rfl, ry⟩ := rl.one'
        obtain ⟨p, ws, rfl, h1, h2⟩ := r2.list es
        exact ⟨p, y', _, _, ws, ds, d, i, rfl, rfl, h1, h2, ry.toD ed, f1, f2, ei, res.d wq rfl⟩
    | count =>
      refine go ⟨PySem.F.plainAttrs_list, PySem.F.slot_list_count, PySem.F.type_list_count, mt_cntD hu⟩ (kl ek) fun v2 vs xs H2 Z2 F2 k Q' zt ek2 r2 rl wq res => ?_
      match vs, wq, rl with
      | [y], wq, rl =>
        obtain ⟨ds, es, wq⟩ := onO.el wq
        obtain ⟨d, ed, f1, f2, wq⟩ := onO.el wq
        obtain ⟨y', Fy, rfl, ry⟩ := rl.one'
        obtain ⟨p, ws, rfl, h1, h2⟩ := r2.list es
        exact ⟨p, y', _, _, ws, ds, d, rfl, rfl, h1, h2, ry.toD ed, f1, f2, res.d wq rfl⟩
    | _ => rw [ek] at w2; exact w2.elim
  | t =>
    cases m with
    | index =>
      refine go ⟨PySem.F.plainAttrs_tuple, PySem.F.slot_tuple_index, PySem.F.type_tuple_index, mt_tup_index⟩ (kt ek) fun v2 vs xs H2 Z2 F2 k Q' zt ek2 r2 rl wq res => ?_
      rw [ek] at ek2
      match vs, wq, rl with
      | [y], wq, rl =>
        have wq : ∃ xs, v2 = .p (.tup xs) ∧ onS y fun z => onO (strs? xs) fun ss => onO (idxT z ss) fun i => k (.p (.int i)) := by
          cases v2 with
          | p d => cases d <;> first | exact ⟨_, rfl, wq⟩ | cases ek2
          | _ => cases ek2
        obtain ⟨ds, rfl, wq⟩ := wq
        obtain ⟨z, rfl, wq⟩ := onS.el wq
        obtain ⟨ss, ess, wq⟩ := onO.el wq
        obtain ⟨i, ei, wq⟩ := onO.el wq
        obtain ⟨y', Fy, rfl, ry⟩ := rl.one'
        cases ra_str ry
        obtain ⟨p, ws, rfl, h1, h2⟩ := r2.1
        rw [h2.strs ess] at h1
        obtain ⟨hz, before⟩ := idxT_some ei
        refine ⟨p, ss.map sT, sT z, i, rfl, rfl, h1.sq, by simp [hz], fun m hm e => ?_, res.d wq rfl⟩
        obtain ⟨t, et, e2⟩ : ∃ t, ss[m]? = some t ∧ sT t = sT z := by simpa using e
        exact before m hm (by rw [et, sT_inj e2])
    | indexD =>
      refine go ⟨PySem.F.plainAttrs_tuple, PySem.F.slot_tuple_index, PySem.F.type_tuple_index, mt_idxTu hu⟩ (kt ek) fun v2 vs xs H2 Z2 F2 k Q' zt ek2 r2 rl wq res => ?_
      rw [ek] at ek2
      match vs, wq, rl with
      | [y], wq, rl =>
        obtain ⟨ds, es, wq⟩ := onO.el wq
        have es : v2 = .p (.tup ds) := by
          cases v2 with
          | p d => cases d <;> first | (cases es; rfl) | cases ek2
          | _ => cases ek2
        subst es
        obtain ⟨d, ed, f1, f2, wq⟩ := onO.el wq
        obtain ⟨i, ei, wq⟩ := onO.el wq
        obtain ⟨y', Fy, rfl, ry⟩ := rl.one'
        obtain ⟨p, ws, rfl, h1, h2⟩ := r2.1
        exact ⟨p, y', _, _, ws, ds, d, i, rfl, rfl, h1.sq, h2, ry.toD ed, f1, f2, ei, res.d wq rfl⟩
    | _ => rw [ek] at w2; exact w2.elim
  | d =>
    cases m with
    | get =>
      refine go ⟨PySem.F.plainAttrs_dict, PySem.F.slot_dict_get, PySem.F.type_dict_get, mt_get2 (by omega)⟩ (kd ek) fun v2 vs xs H2 Z2 F2 k Q' zt ek2 r2 rl wq res => ?_
      match vs, wq, rl with
      | [y, u], wq, rl =>
        obtain ⟨kvs, es, wq⟩ := onO.el wq
        obtain ⟨d, ed, wq⟩ := onO.el wq
        obtain ⟨j, ej, wq⟩ := onO.el wq
        obtain ⟨y', q1, F1, rfl, ry, rl⟩ := rl
        obtain ⟨u', F3, rfl, ru⟩ := rl.one'
        obtain ⟨p, ws, rfl, h1, h2⟩ := r2.dict es
        have hk := key_rd ry ed ej
        subst hk
        have hv := h2.val j
        cases u with
        | p e =>
          refine ⟨p, kV (kK j), u', valV ws (kK j), rfl, rfl, .inl ⟨ws, kK j, h1, rfl, rfl⟩, ?_⟩
          have wq : k (.p (match getK kvs j with | some v => v | none => e)) := wq
          cases eg : getK kvs j with
          | some v =>
            rw [eg] at wq hv
            obtain ⟨x', e1, rv⟩ := hv
            rw [e1]
            exact res.d wq rv
          | none =>
            rw [eg] at wq hv
            rw [hv]
            exact res.d wq ru.1
        | _ => exact wq.elim
    | _ => rw [ek] at w2; exact w2.elim
  | o => rw [ek] at w2; cases m <;> exact w2.elim
theorem s_meth {m : Mt} {nm : Str} {p2 : Pos} (hu : X.A.units + 190 < cLine) (ho : PE X a (tO X.K rx c W ma)) (ha : PA X (e :: es) (tEl X.K rx c W ms)) (hnm : nm = m.nm := by rfl) (h1 : okO ma = true := by rfl)
    (hbase : attributeBase a nm X.env (eval a X.env) = eval a X.env := by rfl)
    (hfew : ((backTo pos (starEach (e :: es) X.env)).all (fun x => !x.1) && (backToKw pos (keywordEach [] X.env)).all (fun x => x.1.isSome)
      && decide ((e :: es).length + ([] : List Keyword).length + (if ([] : List Keyword).isEmpty then 0 else 1) < 30)) = true := by rfl)
    (hline : (p2.endLine == pos.line) = true := by rfl) (hs : starEach (e :: es) X.env = (false, eval e X.env) :: starEach es X.env := by rfl) (hplain : (backTo pos (starEach es X.env)).any (·.1) = false := by rfl) :
    PE X (.Call (.Attribute a nm p2) (e :: es) [] pos) (tE X.K rx c W (.meth m ma ms)) := by
  subst hnm
  exact PE.weak (pe_bx ho ha hbase hfew hline hs hplain) fun σ H Q h => meth_run hu h1 h
theorem pe_rev {te : TE} {k : Nat} {p1 p2 p3 : Pos} (he : PE X e te) : PE X (.Subscript e (.Slice none none (some (.UnaryOp .USub (.Constant (.int 1) k p1) p2)) p3) pos) (fun σ H Q => te σ H fun x H1 => rRev X.K x H1 Q) := by
  refine ⟨fun pins s σ H Q I h => ?_⟩
  refine Subscript_ (thn (he.run pins s σ H _ I h) fun v s1 ⟨x, H1, I1, r1, q1⟩ => ?_)
  have hst : PO X (some (.UnaryOp .USub (.Constant (.int 1) k p1) p2)) (tPart (tUn (rU fun i => .int (-i)) (tC (.int 1)))) := po_some (pe_un un_neg pe_int)
  refine wpAny_Slice (thn (po_none.run pins s1 σ H1 (fun o H2 => o = none ∧ H2 = H1) I1 ⟨rfl, rfl⟩) fun vl s2 ⟨l, H2, I2, pl, el, e2⟩ => ?_)
  subst el e2
  refine thn (po_none.run pins s2 σ H2 (fun o H3 => o = none ∧ H3 = H2) I2 ⟨rfl, rfl⟩) fun vu s3 ⟨u, H3, I3, pu, eu, e3⟩ => ?_
  subst eu e3
  refine thn (hst.run pins s3 σ H3 (fun o H4 => o = some (-1) ∧ H4 = H3) I3 ⟨1, rfl, -1, rfl, rfl, rfl⟩) fun vs s4 ⟨o, H4, I4, ps, eo, e4⟩ => ?_
  subst eo e4
  have I5 : Inv X pins σ H4 { s4 with heap := s4.heap.push { cls := .type "slice", data := .fields #[vl, vu, vs] } } := I4.kept (t' := s4.toks) fun b ob q => Heap.get?_push_of_some _ q
  cases pl
  cases pu
  cases ps
  obtain ⟨T, id, hT, ht, hg⟩ := rev_get I5 r1 (Heap.IsSliceOf.new ..) q1
  refine tail_any (ops := [v, .ref s4.heap.objs.size]) ht hT hg (by with_unfolding_all rfl)
theorem s_rev {k : Nat} {p1 p2 p3 : Pos} (hu : X.A.units + 190 < cLine) (ha : PE X a (tO X.K rx c W ma)) (h1 : okO ma = true := by rfl) : PE X (.Subscript a (.Slice none none (some (.UnaryOp .USub (.Constant (.int 1) k p1) p2)) p3) pos) (tE X.K rx c W (.rev ma)) := PE.weak (pe_rev ha) fun σ H Q h => by
  obtain ⟨α, Z, F, P, X', I, w⟩ := tE.el h
  refine I.opd h1 w fun v α1 H1 Z1 F1 x Fx w1 I1 s1 g1 o1 => ?_
  obtain ⟨v', Fv, r, w2⟩ := o1.fetch I1.rs w1
  exact ⟨Z1, v', Fv, fun v => P v α1, I1.g.zt, r, w2, I1.res⟩
end
end Am

set_option maxHeartbeats 4000000
namespace Am
open PySem PySem.Spec PyProof.Rows L2
variable [CN]
/-- enumerate(v): one argument -/
theorem meets_enum1 {v : Value} {o : Obj} {H : Heap → Prop} (B : Begins v o H) :
    Meets (Builtin.«enumerate.__new__» ⟨[.type "enumerate", v], []⟩) (fun _ R s => H s.heap ∧
      R (.ok (.ret (.ref (s.heap.push o).objs.size))) { s with heap := (s.heap.push o).push { cls := .type "enumerate", data := .fields #[.none, .bool false, .ref s.heap.objs.size, rawInt 0, .none, .none] } }) :=
  .of_wp fun prog w A R s h => by
    obtain ⟨hp, g, d, tk, os⟩ := s; obtain ⟨h1, h⟩ := h
    have hsub := sub_enumerate
    have q1 : ∀ {A' : Around} {E : Value → Shared → Prop} {Q : Value → Shared → Prop}, Q (.ref hp.objs.size) ⟨hp.push o, g, d, tk, os⟩ → wpAny (model prog w) A' (pyIter v) Q E ⟨hp, g, d, tk, os⟩ :=
      fun q => B.iter prog w _ _ ⟨hp, g, d, tk, os⟩ _ h1 q
    wp_walk using q1
    refine wpAny_stack_any fun st => wpAny_pure ?_
    split
    · rename_i c _ _ _ _ _
      cases (c == Value.type "enumerate")
      · wp_walk using q1
        exact ⟨_, rfl, h⟩
      · wp_walk using q1
        exact ⟨_, rfl, h⟩
    · wp_walk using q1
      exact ⟨_, rfl, h⟩
section
variable {prog : Program} {w : World} {A : Around} {E : Value → Shared → Prop} {s : Shared}
theorem call_enum1 {v : Value} {o : Obj} {H : Heap → Prop} {Q : Value → Shared → Prop} (B : Begins v o H) (h1 : H s.heap)
    (h : ∀ h', IsEnum h' (s.heap.objs.size + 1) s.heap.objs.size 0 .none → h'.get? s.heap.objs.size = some o → h'.objs.size = s.heap.objs.size + 2 →
      (∀ b o, s.heap.get? b = some o → h'.get? b = some o) → Q (.ref (s.heap.objs.size + 1)) { s with heap := h' }) :
    wpAny (model prog w) A (call (.type "enumerate") [v]) Q E s := by
  refine callType_new F.called_enumerate (by decide) (F.typeCall_enumerate_1 _) (F.newCall_enumerate_1 _) (fun obj => F.args_object_init_2 obj _) F.entry_enumerate_new
    (meets_enum1 B) ⟨h1, ?_⟩
  have hz : (s.heap.push o).objs.size = s.heap.objs.size + 1 := Heap.size_push ..
  show _ ∧ _
  rw [hz]
  have he : IsEnum ((s.heap.push o).push { cls := .type "enumerate", data := .fields #[.none, .bool false, .ref s.heap.objs.size, rawInt 0, .none, .none] }) (s.heap.objs.size + 1) s.heap.objs.size 0 .none := by
    have := Heap.get?_push_size (s.heap.push o) (o := { cls := .type "enumerate", data := .fields #[.none, .bool false, .ref s.heap.objs.size, rawInt 0, .none, .none] }) rfl
    rw [hz] at this; exact this
  refine ⟨⟨_, he, rfl⟩, h _ he (Heap.get?_push_of_some _ (Heap.get?_push_size _ B.free)) (by rw [Heap.size_push, hz]) fun b o x => Heap.get?_push_of_some _ (Heap.get?_push_of_some _ x)⟩
end
def IteT (K : PySem.W.Frag) (a : Addr) : It :=
  ⟨fun i H => ∃ (xs : List V) (x : V), SqT K H a xs ∧ xs[i]? = some x, fun i H v H' => ∃ T x, v = .ref T ∧ H T = none ∧ H' = upd H T (.tup [.int (i : Nat), x]) ∧ ∀ xs, SqT K H a xs → xs[i]? = some x, fun i H => ∃ xs : List V, SqT K H a xs ∧ xs.length ≤ i⟩
def IteS (z : Str) : It :=
  ⟨fun i H => i < z.cps.size, fun i H v H' => ∃ T c, v = .ref T ∧ H T = none ∧ H' = upd H T (.tup [.int (i : Nat), .str ⟨#[c]⟩]) ∧ z.cps[i]? = some c, fun i H => z.cps.size ≤ i⟩
/-- one turn of an enumerate over what is drawn -/
theorem enum_turn {X : Cx} {elts : List Expr} {kk : Nat} {tpos : Pos} {e it : Addr} {fp : List Addr} {n i : Nat} {Pv : Nat → Value → Prop} {St : Nat → Heap → Prop} {old : Value} {pins : List (Addr × Obj)} {s : Shared} {σ : L2.St} {H : Hp} {E : Value → Shared → Prop} {Y : V → Hp → Prop} {Tn : Heap → Prop} {val : V → Prop}
    (D : Draws X.prog X.w X.A.in1 it fp n Pv St) (I : Inv X pins σ H s) (hf : ∀ b ∈ [e, it], FpOk X pins H b) (he : IsEnum s.heap e it i old) (st : St i s.heap) (hlt : i < n) (hne : e ≠ it) (hef : e ∉ fp) (hv : ∀ u, Pv i u → ∃ x, RelV x u ∧ val x)
    (hG : ∀ x h', val x → H s.heap.objs.size = none → (∃ old, IsEnum h' e it (((i + 1 : Nat) : Int)) old) → St (i + 1) h' → Y (.ref s.heap.objs.size) (upd H s.heap.objs.size (.tup [.int (i : Nat), x])) ∧ Tn h') :
    wpAny (model X.prog X.w) X.A (pyNext (.ref e)) (fun r s1 => ∃ u, r = some u ∧
      wpAny (model X.prog X.w) X.A (letOwnedTupleGo (.Tuple elts kk tpos) (.ref e) u) (fun _ s2 => ∃ x H', Inv X pins σ H' s2 ∧ RelV x u ∧ Y x H' ∧ Tn s2.heap ∧ ∀ b ∈ [e, it], H' b = none) E s1) E s := by
  have hel : e < s.heap.objs.size := Heap.lt_size he
  have hil : it < s.heap.objs.size := by obtain ⟨_, q⟩ := D.live _ _ st; exact Heap.lt_size q
  refine wpAny_pyNext_enum_itemD D he st hlt hne hef fun u h' tk hP ho hst' hT hsz hk => ?_
  obtain ⟨x, ru, vx⟩ := hv u hP
  refine ⟨_, rfl, wpAny_letOwnedTupleGo_enum (s := { s with heap := h', toks := tk + 1 }) ho fun h'' he' sb => ?_⟩
  have hT2 : h''.get? s.heap.objs.size = some { cls := .type "tuple", data := .seq #[.int i tk, u] } := (sb.2 _ (Nat.ne_of_gt hel)).trans hT
  have new : ObjOk X.prog X.w (upd H s.heap.objs.size (.tup [.int (i : Nat), x])) h'' s.heap.objs.size (.tup [.int (i : Nat), x]) :=
    ⟨by show 2 ≤ sizeLine; decide, [.int i tk, u], .cons ⟨_, rfl⟩ (.cons ru .nil), ⟨_, hT2, rfl, _, rfl⟩⟩
  have I1 : Inv X pins σ (upd H s.heap.objs.size (.tup [.int (i : Nat), x])) { s with heap := h'', toks := tk + 1 } :=
    I.turnedNew (ch := [e, it]) (fun b ob hb q => (sb.2 b (fun z => hb (by simp [z]))).trans (hk b ob (fun z => hb (by simp [z])) (fun z => hb (by simp [z])) q)) hf (Nat.le_refl _) new
  have yt := hG x h'' vx (I.hok.fresh (Nat.le_refl _)) ⟨u, ?_⟩ (D.frame _ _ _ hst' fun b hb o y => (sb.2 b fun q => hef (q ▸ hb)).trans y)
  refine ⟨.ref s.heap.objs.size, _, I1, rfl, yt.1, yt.2, fun b hb => ?_⟩
  rotate_left
  · have e1 : ((i + 1 : Nat) : Int) = (i : Int) + 1 := by omega
    rw [e1]; exact he'
  · have hb' : b < s.heap.objs.size := by
      have e' : b = e ∨ b = it := by simpa using hb
      rcases e' with z | z
      · rw [z]; exact hel
      · rw [z]; exact hil
    rw [upd_ne (Nat.ne_of_lt hb')]
    exact (hf b hb).1
theorem enum_end_of {prog : Program} {w : World} {A : Around} {E : Value → Shared → Prop} {s : Shared} {e it : Addr} {i : Int} {old : Value} {Q : Option Value → Shared → Prop} (he : IsEnum s.heap e it i old)
    (nx : ∀ (Q : Value → Shared → Prop) (E : Value → Shared → Prop), (∀ h' ex, Heap.ExtBut it s.heap h' → (∃ o, h'.get? ex = some o ∧ o.cls = .type "StopIteration") → E (.ref ex) { s with heap := h' }) → wpAny (model prog w) A.in1 (Builtin.SmallTypes.nextOf (.ref it)) Q E s)
    (hQ : ∀ h', Heap.ExtBut it s.heap h' → Q none { s with heap := h' }) : wpAny (model prog w) A (pyNext (.ref e)) Q E s := by
  have hT : s.TypeIs (.ref e) "enumerate" := ⟨_, he, rfl⟩
  unfold pyNext
  refine wpAny_bind (wpAny_attempt (wpAny_callSpecial?_slot (name := Str.ofString "__next__") hT F.slot_enumerate_next
    (wpAny_call_entry F.slot_enumerate_next hT F.entry_enumerate_next ?_ (F.args_enumerate_next_1 _))))
  show wpAny _ _ (field (.ref e) 2 >>= _) _ _ _
  refine wpAny_bind (wpAny_field he rfl (x := .ref it) rfl ?_)
  refine wpAny_bind (nx _ _ fun h' x he' hx' => ?_)
  obtain ⟨o, ho, hc⟩ := hx'
  refine wpAny_bind (wpAny_isInstance (T := "StopIteration") (b := true) ⟨o, ho, hc⟩ isSubtype_stop ?_)
  exact wpAny_pure (hQ _ he')
theorem enum_stop {X : Cx} {e it : Addr} {old : Value} {i : Int} {pins : List (Addr × Obj)} {s : Shared} {σ : L2.St} {H : Hp} {E : Value → Shared → Prop}
    (I : Inv X pins σ H s) (hf : ∀ b ∈ [e, it], FpOk X pins H b) (he : IsEnum s.heap e it i old)
    (nx : ∀ (Q : Value → Shared → Prop) (E : Value → Shared → Prop), (∀ h' ex, Heap.ExtBut it s.heap h' → (∃ o, h'.get? ex = some o ∧ o.cls = .type "StopIteration") → E (.ref ex) { s with heap := h' }) → wpAny (model X.prog X.w) X.A.in1 (Builtin.SmallTypes.nextOf (.ref it)) Q E s) :
    wpAny (model X.prog X.w) X.A (pyNext (.ref e)) (fun r s1 => r = none ∧ Inv X pins σ H s1) E s := by
  obtain ⟨f0, f1, f2, f3, f4, f5⟩ := hf it (by simp)
  exact enum_end_of he nx fun h' eb => ⟨rfl, I.turned (t' := s.toks) (fun b o hb q => eb b o hb q) f0 f1 f3 f4 f5⟩
theorem turn_enumT {P : Program} {w : World} {K : PySem.W.Frag} {elts : List Expr} {kk : Nat} {tpos : Pos} (a e it : Addr) :
    Turn P w K (.Tuple elts kk tpos) (IteT K a) [e, it] e (fun i h => (∃ old, IsEnum h e it ((i : Nat) : Int) old) ∧ h.IsTupleIter it a i ∧ e ≠ it) where
  mem := by simp
  obj := fun i h st b hb => by
    obtain ⟨⟨old, he⟩, ⟨o, ho, hc, hd⟩, _⟩ := st
    have e' : b = e ∨ b = it := by simpa using hb
    rcases e' with z | z
    · rw [z]; exact ⟨_, he, fun v q => nomatch q⟩
    · rw [z]; exact ⟨o, ho, fun v q => by rw [hd] at q; cases q⟩
  keep := fun i h h' st k => let ⟨⟨old, he⟩, hi, hne⟩ := st; ⟨⟨old, k e (by simp) _ he⟩, hi.at fun o q => k it (by simp) o q, hne⟩
  item := by
    intro X hP hw hK hc i pins s σ H E I hf st hg
    subst hP hw hK
    obtain ⟨⟨old, he⟩, hit, hne⟩ := st
    obtain ⟨xs, x, hq, hx⟩ := hg
    obtain ⟨its, rv, p, hz⟩ := I.tuple hq
    obtain ⟨u, hu, ru⟩ := rv.get hx
    have hai : a ≠ it := fun z => by
      obtain ⟨o, ho, hcc, _⟩ := p
      obtain ⟨o2, ho2, hc2, _⟩ := hit
      rw [z] at ho
      rw [ho] at ho2
      cases ho2
      rw [hcc] at hc2
      exact absurd hc2 (by decide)
    have hae : a ≠ e := fun z => by
      obtain ⟨o, ho, hcc, _⟩ := p
      rw [z] at ho
      have he2 : s.heap.get? e = some _ := he
      rw [ho] at he2
      cases he2
      exact absurd (show Value.type "enumerate" = Value.type "tuple" from hcc) (by decide)
    have D := Draws.tuple (prog := X.prog) (w := X.w) (A := X.A.in1) (I.ok.hd hc) it a hai its.toArray
    refine enum_turn (Y := (IteT X.K a).yld i H) (Tn := fun h => (∃ old, IsEnum h e it (((i + 1 : Nat)) : Int) old) ∧ h.IsTupleIter it a (i + 1) ∧ e ≠ it) (val := fun y => y = x) D I hf he ⟨hit, p⟩ (by simpa using (List.getElem?_eq_some_iff.mp hu).1) hne (by simp [hne, Ne.symm hae]) (fun v hv => ?_) (fun y h' hy hn he' st' => ⟨⟨_, x, rfl, hn, by rw [hy], fun ys hy => by rw [I.tuple_inj hy hq]; exact hx⟩, he', st'.1, hne⟩)
    have : v = u := by
      have hv : its.toArray[i]? = some v := hv
      rw [List.getElem?_toArray, hu] at hv
      cases hv
      rfl
    exact ⟨x, by rw [this]; exact ru, rfl⟩
  done := by
    intro X hP hw hK hc i pins s σ H E I hf st hg
    subst hP hw hK
    obtain ⟨⟨old, he⟩, hit, hne⟩ := st
    obtain ⟨xs, hq, hx⟩ := hg
    obtain ⟨its, rv, p, hz⟩ := I.tuple hq
    have hl := rv.length
    exact enum_stop I hf he fun Q E h => wpAny_nextOf_tuple_end (I.ok.hd hc) hit p (by simp; omega) h
  self := fun A i s Q E st h => let ⟨⟨_, he⟩, _⟩ := st; wpAny_pyIter_enum he h
theorem turn_enumS {P : Program} {w : World} {K : PySem.W.Frag} {elts : List Expr} {kk : Nat} {tpos : Pos} (z : Str) (t : Tok) (e it : Addr) :
    Turn P w K (.Tuple elts kk tpos) (IteS z) [e, it] e (fun i h => (∃ old, IsEnum h e it ((i : Nat) : Int) old) ∧ h.IsStrIter it (strIterType z) z t i ∧ e ≠ it) where
  mem := by simp
  obj := fun i h st b hb => by
    obtain ⟨⟨old, he⟩, ⟨o, ho, hc, hd⟩, _⟩ := st
    have e' : b = e ∨ b = it := by simpa using hb
    rcases e' with z | z
    · rw [z]; exact ⟨_, he, fun v q => nomatch q⟩
    · rw [z]; exact ⟨o, ho, fun v q => by rw [hd] at q; cases q⟩
  keep := fun i h h' st k => by
    obtain ⟨⟨old, he⟩, ⟨o, ho, r⟩, hne⟩ := st
    exact ⟨⟨old, k e (by simp) _ he⟩, ⟨o, k it (by simp) _ ho, r⟩, hne⟩
  item := by
    intro X hP hw hK hc i pins s σ H E I hf st hg
    subst hP hw hK
    obtain ⟨⟨old, he⟩, hit, hne⟩ := st
    have hlt : i < z.cps.size := hg
    have D := Draws.text (prog := X.prog) (w := X.w) (A := X.A.in1) (I.ok.hd hc) it z t
    refine enum_turn (Y := (IteS z).yld i H) (Tn := fun h => (∃ old, IsEnum h e it (((i + 1 : Nat)) : Int) old) ∧ h.IsStrIter it (strIterType z) z t (i + 1) ∧ e ≠ it) (val := fun y => y = .str ⟨#[z.cps[i]]⟩) D I hf he hit hlt hne (by simp [hne]) (fun v hv => ?_) (fun y h' hy hn he' st' => ⟨⟨_, z.cps[i], rfl, hn, by rw [hy], by simp [hlt]⟩, he', st', hne⟩)
    obtain ⟨c, u, e1, e2⟩ := hv
    have : c = z.cps[i] := by
      have : z.cps[i]? = some z.cps[i] := by simp [hlt]
      rw [this] at e1
      cases e1
      rfl
    exact ⟨.str ⟨#[c]⟩, ⟨u, e2⟩, by rw [this]⟩
  done := by
    intro X hP hw hK hc i pins s σ H E I hf st hg
    subst hP hw hK
    obtain ⟨⟨old, he⟩, hit, hne⟩ := st
    have hx : z.cps[i]? = none := by simpa using (show z.cps.size ≤ i from hg)
    refine enum_stop I hf he fun Q E h => ?_
    cases ha : z.cps.all (· < 128)
    · simp only [strIterType, ha, Bool.false_eq_true, if_false] at hit
      exact wpAny_nextOf_wide_end (I.ok.hd hc) hit hx h
    · simp only [strIterType, ha, if_true] at hit
      exact wpAny_nextOf_ascii_end (I.ok.hd hc) hit hx h
  self := fun A i s Q E st h => let ⟨⟨_, he⟩, _⟩ := st; wpAny_pyIter_enum he h
/-- enumerate of a list, a tuple, a text -/
def iEnumA (K : PySem.W.Frag) (ta : TA) : TI := fun σ H R => ta σ H fun vs H1 => (∃ a xs, vs = [.ref a] ∧ SqL K H1 a xs ∧ R (Ite K a) H1) ∨ (∃ a xs, vs = [.ref a] ∧ SqT K H1 a xs ∧ R (IteT K a) H1) ∨ ∃ z, vs = [.str z] ∧ R (IteS z) H1
theorem pi_enumA {X : Cx} {e : Expr} {ta : TA} {p pos tpos : Pos} {elts : List Expr} {kk : Nat} (hg : Gl X "enumerate") (hm : X.mg "enumerate" = none) (ha : PA X [e] ta) (hs : starEach [e] X.env = [(false, eval e X.env)] := by rfl) :
    PI X (.Tuple elts kk tpos) (.Call (.Name "enumerate" p) [e] [] pos) (iEnumA X.K ta) := by
  refine ⟨fun pins s σ H R I h => ?_⟩
  refine Call_ (ld_blt I hg hm boot_enumerate (PyProof.Rows.callWith_type1 (thn (ha.run pos pins s σ H _ I h) fun us s1 ⟨vs, H1, I1, r1, q1⟩ => ?_) hs rfl))
  have fr : ∀ b ∈ [s1.heap.objs.size + 1, s1.heap.objs.size], FpOk X pins H1 b := fun b hb => by
    have e' : b = s1.heap.objs.size + 1 ∨ b = s1.heap.objs.size := by simpa using hb
    have hle : s1.heap.objs.size ≤ b := by
      rcases e' with z | z
      · rw [z]; exact Nat.le_add_right _ _
      · rw [z]; exact Nat.le_refl _
    exact I1.fpOk hle (I1.hok.fresh hle)
  rcases q1 with ⟨a, xs, ex, hq, q⟩ | ⟨a, xs, ex, hq, q⟩ | ⟨z, ex, q⟩
  · subst ex
    cases r1 with
    | cons r rr =>
      cases rr
      cases r
      obtain ⟨its, rv, p', hz⟩ := I1.list hq
      refine call_enum1 (begins_list a its.toArray) p'.isList fun h' he hit hsz hk => wpAny_pyIter_enum he ?_
      have I2 : Inv X pins σ H1 { s1 with heap := h' } := I1.kept (t' := s1.toks) hk
      exact ⟨s1.heap.objs.size + 1, [s1.heap.objs.size + 1, s1.heap.objs.size], _, _, H1, rfl, I2, turn_enum a (s1.heap.objs.size + 1) s1.heap.objs.size, ⟨⟨.none, he⟩, ⟨_, hit, rfl, rfl⟩, Nat.succ_ne_self _⟩, fr, q⟩
  · subst ex
    cases r1 with
    | cons r rr =>
      cases rr
      cases r
      obtain ⟨its, rv, p', hz⟩ := I1.tuple hq
      refine call_enum1 (begins_tuple a its.toArray) p' fun h' he hit hsz hk => wpAny_pyIter_enum he ?_
      have I2 : Inv X pins σ H1 { s1 with heap := h' } := I1.kept (t' := s1.toks) hk
      exact ⟨s1.heap.objs.size + 1, [s1.heap.objs.size + 1, s1.heap.objs.size], _, _, H1, rfl, I2, turn_enumT a (s1.heap.objs.size + 1) s1.heap.objs.size, ⟨⟨.none, he⟩, ⟨_, hit, rfl, rfl⟩, Nat.succ_ne_self _⟩, fr, q⟩
  · subst ex
    cases r1 with
    | cons r rr =>
      cases rr
      obtain ⟨t, rfl⟩ := r
      refine call_enum1 (begins_text z t) trivial fun h' he hit hsz hk => wpAny_pyIter_enum he ?_
      have I2 : Inv X pins σ H1 { s1 with heap := h' } := I1.kept (t' := s1.toks) hk
      exact ⟨s1.heap.objs.size + 1, [s1.heap.objs.size + 1, s1.heap.objs.size], _, _, H1, rfl, I2, turn_enumS z t (s1.heap.objs.size + 1) s1.heap.objs.size, ⟨⟨.none, he⟩, ⟨_, hit, rfl, rfl⟩, Nat.succ_ne_self _⟩, fr, q⟩
theorem enumD_len : ∀ (k : Int) (xs : List D), (enumD k xs).length = xs.length
  | _, [] => rfl
  | k, _ :: r => by show (enumD (k + 1) r).length + 1 = r.length + 1; rw [enumD_len (k + 1) r]
theorem enumD_at : ∀ (k : Int) (xs : List D) (i : Nat), (enumD k xs)[i]? = (xs[i]?).map fun d => .tup [.int (k + (i : Nat)), d]
  | _, [], _ => rfl
  | k, x :: r, 0 => by show some (D.tup [.int k, x]) = some (.tup [.int (k + ((0 : Nat) : Int)), x]); simp
  | k, x :: r, i + 1 => by
    show (enumD (k + 1) r)[i]? = _
    rw [enumD_at (k + 1) r i]
    have : k + 1 + (i : Int) = k + ((i + 1 : Nat) : Int) := by omega
    rw [this]
    rfl
section
variable {K : PySem.W.Frag} {H H' H1 : Hp} {Z Z' Z1 : ZP} {F F' F1 : List Addr} {ts : MEs}
theorem ry_pair {T : Addr} {d e : D} {x y : V} (hT : H T = none) (zt : Zt H Z) (h1 : RD K H Z d x) (h2 : RD K H Z e y) : New H Z (upd H T (.tup [x, y])) Z [] ∧ RY K (upd H T (.tup [x, y])) Z (.tup ts) (.tup [d, e]) (.ref T) := by
  refine ⟨fun F g => ?_, .inr ⟨⟨ts, rfl⟩, _, T, [x, y], rfl, rfl, .inl (.inl upd_same), ?_⟩⟩
  · rw [List.append_nil]
    exact ⟨.newT hT, .newT hT g⟩
  · have k : Keep H Z (upd H T (.tup [x, y])) Z := (Step.newT (F := []) hT).keep (g0 zt)
    exact ⟨x, [y], rfl, RD.keep k d h1, y, [], rfl, RD.keep k e h2, rfl⟩
theorem drw_eL {a : Addr} {vs : List V} {xs : List D} (zt : Zt H Z) (q : SqL K H a vs) (r : RDs K H Z xs vs) : Drw K (Ite K a) (.tup ts) (enumD 0 xs) H Z :=
  ⟨fun i hi => by
    rw [enumD_len] at hi
    obtain ⟨x, e1, r1⟩ := r.at (List.getElem?_eq_getElem hi)
    refine ⟨⟨vs, x, q, e1⟩, fun y H' hy => ?_⟩
    obtain ⟨T, x', rfl, hT, rfl, h⟩ := hy
    have := h vs q
    rw [e1] at this
    cases this
    obtain ⟨n1, n2⟩ := ry_pair (ts := ts) (d := .int (i : Nat)) (x := .int (i : Nat)) hT zt rfl r1
    exact ⟨.tup [.int (i : Nat), xs[i]], by rw [enumD_at, List.getElem?_eq_getElem hi]; simp, n1, n2⟩, fun i hi => ⟨vs, q, by rw [← r.len]; rw [enumD_len] at hi; exact hi⟩⟩
theorem drw_eT {a : Addr} {vs : List V} {xs : List D} (zt : Zt H Z) (q : SqT K H a vs) (r : RDs K H Z xs vs) : Drw K (IteT K a) (.tup ts) (enumD 0 xs) H Z :=
  ⟨fun i hi => by
    rw [enumD_len] at hi
    obtain ⟨x, e1, r1⟩ := r.at (List.getElem?_eq_getElem hi)
    refine ⟨⟨vs, x, q, e1⟩, fun y H' hy => ?_⟩
    obtain ⟨T, x', rfl, hT, rfl, h⟩ := hy
    have := h vs q
    rw [e1] at this
    cases this
    obtain ⟨n1, n2⟩ := ry_pair (ts := ts) (d := .int (i : Nat)) (x := .int (i : Nat)) hT zt rfl r1
    exact ⟨.tup [.int (i : Nat), xs[i]], by rw [enumD_at, List.getElem?_eq_getElem hi]; simp, n1, n2⟩, fun i hi => ⟨vs, q, by rw [← r.len]; rw [enumD_len] at hi; exact hi⟩⟩
theorem drw_eS {s : T} (zt : Zt H Z) : Drw K (IteS (sT s)) (.tup ts) (enumD 0 (charsD s)) H Z :=
  ⟨fun i hi => by
    rw [enumD_len, charsD_len] at hi
    have hs : i < (sT s).cps.size := by simpa [sT] using hi
    refine ⟨hs, fun y H' hy => ?_⟩
    obtain ⟨T, c, rfl, hT, rfl, hc⟩ := hy
    have hc' : s[i]? = some c := by simpa [sT] using hc
    obtain ⟨n1, n2⟩ := ry_pair (ts := ts) (d := .int (i : Nat)) (x := .int (i : Nat)) (e := .str [c]) (y := .str ⟨#[c]⟩) hT zt rfl rfl
    exact ⟨.tup [.int (i : Nat), .str [c]], by rw [enumD_at, charsD_at, hc']; simp, n1, n2⟩, fun i hi => by
    rw [enumD_len, charsD_len] at hi
    show (sT s).cps.size ≤ i
    simpa [sT] using hi⟩
theorem zipD_at : ∀ (xs ys : List D) (i : Nat) (x y : D), xs[i]? = some x → ys[i]? = some y → (zipD xs ys)[i]? = some (.tup [x, y])
  | [], _, i, _, _, h, _ => by simp at h
  | _ :: _, [], i, _, _, _, h => by simp at h
  | _ :: _, _ :: _, 0, _, _, h1, h2 => by simp at h1 h2; subst h1 h2; rfl
  | _ :: r, _ :: q, i + 1, x, y, h1, h2 => by
    show (zipD r q)[i]? = _
    exact zipD_at r q i x y (by simpa using h1) (by simpa using h2)
theorem zipD_len : ∀ (xs ys : List D), (zipD xs ys).length = min xs.length ys.length
  | [], _ => by simp [zipD]
  | _ :: _, [] => by simp [zipD]
  | _ :: r, _ :: q => by
    show (zipD r q).length + 1 = _
    rw [zipD_len r q]
    simp only [List.length_cons]
    omega
theorem drw_zL {a b : Addr} {vs us : List V} {xs ys : List D} (zt : Zt H Z) (q : SqL K H a vs) (r : RDs K H Z xs vs) (q2 : SqL K H b us) (r2 : RDs K H Z ys us) : Drw K (Itz K a b) (.tup ts) (zipD xs ys) H Z :=
  ⟨fun i hi => by
    rw [zipD_len] at hi
    have h1 : i < xs.length := by omega
    have h2 : i < ys.length := by omega
    obtain ⟨x, e1, r1⟩ := r.at (List.getElem?_eq_getElem h1)
    obtain ⟨y, e2, r3⟩ := r2.at (List.getElem?_eq_getElem h2)
    refine ⟨⟨vs, us, x, y, q, q2, e1, e2⟩, fun v H' hy => ?_⟩
    obtain ⟨T, x', y', rfl, hT, rfl, h, h'⟩ := hy
    have := h vs q
    rw [e1] at this
    cases this
    have := h' us q2
    rw [e2] at this
    cases this
    obtain ⟨n1, n2⟩ := ry_pair (ts := ts) hT zt r1 r3
    exact ⟨.tup [xs[i], ys[i]], zipD_at _ _ _ _ _ (List.getElem?_eq_getElem h1) (List.getElem?_eq_getElem h2), n1, n2⟩, fun i hi => ⟨vs, us, q, q2, by rw [← r.len, ← r2.len]; rw [zipD_len] at hi; omega⟩⟩
theorem drw_zT {a b : Addr} {vs us : List V} {xs ys : List D} (zt : Zt H Z) (q : SqT K H a vs) (r : RDs K H Z xs vs) (q2 : SqT K H b us) (r2 : RDs K H Z ys us) : Drw K (RZ.ItzT K a b) (.tup ts) (zipD xs ys) H Z :=
  ⟨fun i hi => by
    rw [zipD_len] at hi
    have h1 : i < xs.length := by omega
    have h2 : i < ys.length := by omega
    obtain ⟨x, e1, r1⟩ := r.at (List.getElem?_eq_getElem h1)
    obtain ⟨y, e2, r3⟩ := r2.at (List.getElem?_eq_getElem h2)
    refine ⟨⟨vs, us, x, y, q, q2, e1, e2⟩, fun v H' hy => ?_⟩
    obtain ⟨T, x', y', rfl, hT, rfl, h, h'⟩ := hy
    have := h vs q
    rw [e1] at this
    cases this
    have := h' us q2
    rw [e2] at this
    cases this
    obtain ⟨n1, n2⟩ := ry_pair (ts := ts) hT zt r1 r3
    exact ⟨.tup [xs[i], ys[i]], zipD_at _ _ _ _ _ (List.getElem?_eq_getElem h1) (List.getElem?_eq_getElem h2), n1, n2⟩, fun i hi => ⟨vs, us, q, q2, by rw [← r.len, ← r2.len]; rw [zipD_len] at hi; omega⟩⟩
end
section
variable {X : Cx} {rx : RX} {c : Am.Ctx} {W : WX} {sg : List Bool} {a b d e tg iter : Expr} {es : List Expr} {pos tpos p : Pos} {kk : Nat} {m ma mb md : ME} {ms ts : MEs}
theorem si_enum (hm : X.mg "enumerate" = none) (he : PE X e (tO X.K rx c W m)) (h1 : okO m = true := by rfl) (hg : Gl X "enumerate" := by rfl) (hs : starEach [e] X.env = [(false, eval e X.env)] := by rfl) :
    PI X (.Tuple es kk tpos) (.Call (.Name "enumerate" p) [e] [] pos) (tI X.K rx c W (.tup ts) (.enum m)) := PI.weak (pi_enumA hg hm (pa_cons he pa_nil hs) hs) fun σ H R ⟨α, Z, F, k, X', rs, g, w, hX, cont⟩ => by
  have w : pre m (fun α k => wpE c m α k X') α fun v α1 => srcQ m v α1 fun xs gd ex α2 => k (enumD 0 xs) gd ex α2 := w
  refine opd_run h1 rs g w hX fun v α1 H1 Z1 F1 x Fx w1 s1 g1 rs1 o1 => ?_
  obtain ⟨_, _, xs, gd, ex, α2, Z2, F2, kd, hk, _, s2, g2, rs2, sk, later⟩ := src_run o1 g1 rs1 w1
  have fin := fun J => cont (enumD 0 xs) gd ex α2 hk H1 Z2 F2 J (s1.trans s2) g2 rs2
  cases kd with
  | l a =>
    obtain ⟨vs, rfl, q, r⟩ := sk
    refine .inl ⟨a, vs, rfl, q, fin _ fun H' Z' α' σ' F' s g' rs' hg => ?_⟩
    obtain ⟨a1, us, e, q', r'⟩ := later H' Z' α' σ' F' (s.keep g2) g' rs' hg
    cases e
    exact ⟨a1, drw_eL g'.zt q' r'⟩
  | t a =>
    obtain ⟨vs, rfl, q, r⟩ := sk
    refine .inr (.inl ⟨a, vs, rfl, q, fin _ fun H' Z' α' σ' F' s g' rs' hg => ?_⟩)
    obtain ⟨a1, us, e, q', r'⟩ := later H' Z' α' σ' F' (s.keep g2) g' rs' hg
    cases e
    exact ⟨a1, drw_eT g'.zt q' r'⟩
  | s st =>
    obtain ⟨rfl, rfl⟩ := sk
    refine .inr (.inr ⟨_, rfl, fin _ fun H' Z' α' σ' F' s g' rs' hg => ?_⟩)
    exact ⟨(later H' Z' α' σ' F' (s.keep g2) g' rs' hg).1, drw_eS g'.zt⟩
theorem onLT.el {a b : Kn} {A : Prop} (h : onLT a b A) : ((a = .l ∧ b = .l) ∨ (a = .t ∧ b = .t)) ∧ A := by
  cases a <;> cases b <;> first | exact ⟨.inl ⟨rfl, rfl⟩, h⟩ | exact ⟨.inr ⟨rfl, rfl⟩, h⟩ | exact h.elim
theorem fetch_el {a : ME} {v : AV} {α : Sl} {k : AV → Prop} (h : Am.fetch a v α k) : ∃ u, k u ∧ Am.fetch a v α fun y => y = u := by
  unfold Am.fetch at h ⊢
  cases e : plOf a v with
  | some p =>
    rw [e] at h
    have h : onO (getP p α) k := h
    obtain ⟨u, e, h⟩ := onO.el h
    refine ⟨u, h, ?_⟩
    show onO (getP p α) fun y => y = u
    rw [e]
  | none =>
    rw [e] at h
    exact ⟨_, h, rfl⟩
theorem si_zip (hm : X.mg "zip" = none) (ha : PE X a (tO X.K rx c W ma)) (hb : PE X b (tO X.K rx c W mb)) (h1 : okO ma = true := by rfl) (h2 : okO mb = true := by rfl) (hg : Gl X "zip" := by rfl)
    (hs : starEach [a, b] X.env = (false, eval a X.env) :: starEach [b] X.env := by rfl) (hs2 : starEach [b] X.env = [(false, eval b X.env)] := by rfl) (hpl : (backTo pos (starEach [b] X.env)).any (·.1) = false := by rfl) :
    PI X (.Tuple es kk tpos) (.Call (.Name "zip" p) [a, b] [] pos) (tI X.K rx c W (.tup ts) (.zip ma mb)) := PI.weak (RZ.pi_zipA hg hm (pa_cons ha (pa_cons hb pa_nil hs2) hs) hs hpl) fun σ H R ⟨α, Z, F, k, X', rs, g, w, hX, cont⟩ => by
  have w : pre ma (fun α k => wpE c ma α k X') α fun x α1 => pre mb (fun α k => wpE c mb α k X') α1 fun y α2 =>
      Am.fetch ma x α2 fun x1 => srcQ ma x α2 fun xs gd ex α3 => Am.fetch mb y α3 fun y1 => onLT (kindA x1) (kindA y1) (srcQ mb y α3 fun ys gd' ex' α4 => k (zipD xs ys) (fun β => gd (ex' β) ∧ gd' β) (fun β => ex (ex' β)) α4) := w
  refine opd_run h1 rs g w hX fun v1 α1 H1 Z1 F1 x Fx w1 s1 g1 rs1 o1 => ?_
  refine opd_run h2 rs1 g1.left w1 (PX.next hX s1 g1) fun v2 α2 H2 Z2 F2 y Fy w2 s2 g2 rs2 o2 => ?_
  have o1' := o1.frame g1 s2
  have gA := G3.beside g1 s2 g2
  have gB : G3 H2 Z2 ((F2 ++ Fx) ++ Fy) := gA.perm assoc3'
  have sB : Step H Z F H2 Z2 ((F2 ++ Fx) ++ Fy) := (s1.trans (s2.beside g1)).permR assoc3'
  obtain ⟨u1, w3, f1⟩ := fetch_el w2
  obtain ⟨ka, hka, xs, gd, ex, α3, Z3, F3, kd, hk, ekd, s3, g3, rs3, sk, later⟩ := src_run o1' gB.left rs2 w3
  have s3' := s3.beside gB
  have g3' := G3.beside gB s3 g3
  have o2' := o2.frame gB s3
  obtain ⟨u2, w4, f2⟩ := fetch_el hk
  obtain ⟨kk, w5⟩ := onLT.el w4
  obtain ⟨kb, hkb, ys, gd', ex', α4, Z4, F4, kd', hk', ekd', s4, g4, rs4, sk', later'⟩ := src_run o2' g3' rs3 w5
  obtain ⟨_, eka, rfl⟩ := hka _ f1
  obtain ⟨_, ekb, rfl⟩ := hkb _ f2
  have e1 := ekd.trans eka.symm
  have e2 := ekd'.trans ekb.symm
  have k4 : Keep H2 Z3 H2 Z4 := s4.keep g3'
  have sF : Step H Z F H2 Z4 F4 := (sB.trans s3').trans s4
  have fin := fun J => cont (zipD xs ys) _ _ α4 hk' H2 Z4 F4 J sF g4 rs4
  have now : RS X.K H2 Z4 α4 σ F4 := rs4
  cases kd with
  | l pa =>
    cases kd' with
    | l pb =>
      obtain ⟨vs, rfl, q, r⟩ := sk
      obtain ⟨us, rfl, q2, r2⟩ := sk'
      refine ⟨pa, pb, vs, us, rfl, .inl ⟨q, q2, fin _ fun H' Z' α' σ' F' s g' rs' hg => ?_⟩⟩
      obtain ⟨b1, us', e, q2', r2'⟩ := later' H' Z' α' σ' F' (s.keep g4) g' rs' hg.2
      cases e
      obtain ⟨a1, vs', e, q', r'⟩ := later H' Z' (ex' α') σ' F' (k4.trans (s.keep g4)) g' b1 hg.1
      cases e
      exact ⟨a1, drw_zL g'.zt q' r' q2' r2'⟩
    | _ => rcases kk with ⟨h1, h2⟩ | ⟨h1, h2⟩ <;> (rw [h1] at e1; rw [h2] at e2; first | (cases e1; done) | (cases e2; done))
  | t pa =>
    cases kd' with
    | t pb =>
      obtain ⟨vs, rfl, q, r⟩ := sk
      obtain ⟨us, rfl, q2, r2⟩ := sk'
      refine ⟨pa, pb, vs, us, rfl, .inr ⟨q, q2, fin _ fun H' Z' α' σ' F' s g' rs' hg => ?_⟩⟩
      obtain ⟨b1, us', e, q2', r2'⟩ := later' H' Z' α' σ' F' (s.keep g4) g' rs' hg.2
      cases e
      obtain ⟨a1, vs', e, q', r'⟩ := later H' Z' (ex' α') σ' F' (k4.trans (s.keep g4)) g' b1 hg.1
      cases e
      exact ⟨a1, drw_zT g'.zt q' r' q2' r2'⟩
    | _ => rcases kk with ⟨h1, h2⟩ | ⟨h1, h2⟩ <;> (rw [h1] at e1; rw [h2] at e2; first | (cases e1; done) | (cases e2; done))
  | s st => rcases kk with ⟨h1, h2⟩ | ⟨h1, h2⟩ <;> (rw [h1] at e1; cases e1)
end
end Am

set_option maxHeartbeats 4000000
namespace Am
open PySem
/-- a comprehension, by an invariant over what is left and what is made -/
theorem loopC_inv {own : List Nat} {g : D → Sl → (Sl → Prop) → Prop} {t : Sl → (Bool → Sl → Prop) → Prop} {e : Sl → VP → Prop} {gd : Sl → Prop} {k : List D → Sl → Prop} (I : List D → List D → Sl → Prop)
    (turn : ∀ x r acc α, I (x :: r) acc α → gd α ∧ ∀ k' : List D → Sl → Prop, (∀ acc' β, I r acc' β → k' acc' β) → g x α fun α1 => t α1 fun b α2 => ifB b (e α2 fun v α3 => onO (toD v) fun d => k' (acc ++ [d]) (wipe own α3)) (k' acc (wipe own α2)))
    (stop : ∀ acc α, I [] acc α → gd α ∧ k acc α) : ∀ (xs acc : List D) (α : Sl), I xs acc α → loopC own g t e gd xs acc α k
  | [], acc, α, h => stop acc α h
  | x :: r, acc, α, h => ⟨(turn x r acc α h).1, (turn x r acc α h).2 _ fun acc' β hb => loopC_inv I turn stop r acc' β hb⟩
/-- a while, by an invariant and a measure -/
theorem loopN_inv {t : Sl → (Bool → Sl → Prop) → Prop} {w : Sl → (Sl → Prop) → Prop} {k : Sl → Prop} (I : Sl → Nat → Prop)
    (turn : ∀ α m, I α m → ∀ k' : Sl → Prop, (∀ β m', I β m' → m' < m → k' β) → t α fun b α1 => ifB b (w α1 k') (k α1)) : ∀ (n : Nat) (α : Sl) (m : Nat), I α m → m < n → loopN t w n α k
  | 0, _, _, _, h => absurd h (Nat.not_lt_zero _)
  | n + 1, α, m, hI, h => turn α m hI _ fun β m' hb hm => loopN_inv I turn n β m' hb (by omega)
theorem loopN_ex {t : Sl → (Bool → Sl → Prop) → Prop} {w : Sl → (Sl → Prop) → Prop} {k : Sl → Prop} (I : Sl → Nat → Prop) {α : Sl} {m : Nat} (h : I α m)
    (turn : ∀ α m, I α m → ∀ k' : Sl → Prop, (∀ β m', I β m' → m' < m → k' β) → t α fun b α1 => ifB b (w α1 k') (k α1)) : ∃ n, loopN t w n α k := ⟨m + 1, loopN_inv I turn (m + 1) α m h (Nat.lt_succ_self m)⟩
@[reducible] def takeS : Nat → MSs → MSs
  | 0, _ => .nil
  | _ + 1, .nil => .nil
  | n + 1, .cons s r => .cons s (takeS n r)
@[reducible] def dropS : Nat → MSs → MSs
  | 0, b => b
  | _ + 1, .nil => .nil
  | n + 1, .cons _ r => dropS n r
theorem split_S (c : Ctx) (X : XP) : ∀ (n : Nat) (b : MSs) (α : Sl) (N : Ends), wpSs c b α N X = wpSs c (takeS n b) α ⟨fun β => wpSs c (dropS n b) β N X, N.rt⟩ X
  | 0, b, α, N => rfl
  | n + 1, .nil, α, N => rfl
  | n + 1, .cons s r, α, N => by
    show wpS c s α ⟨fun α1 => frc α1 fun α1 => wpSs c r α1 N X, N.rt⟩ X = wpS c s α ⟨fun α1 => frc α1 fun α1 => wpSs c (takeS n r) α1 ⟨fun β => wpSs c (dropS n r) β N X, N.rt⟩ X, N.rt⟩ X
    have : (fun α1 => frc α1 fun α1 => wpSs c r α1 N X) = fun α1 => frc α1 fun α1 => wpSs c (takeS n r) α1 ⟨fun β => wpSs c (dropS n r) β N X, N.rt⟩ X := by
      funext α1
      rw [frc_eq, frc_eq, split_S c X n r α1 N]
    rw [this]
/-- a block in two: what stands between them -/
theorem cut_S {c : Ctx} {X : XP} {b : MSs} {α : Sl} {N : Ends} (n : Nat) (J : Sl → Prop) (h1 : ∀ K : Sl → Prop, (∀ β, J β → K β) → wpSs c (takeS n b) α ⟨K, N.rt⟩ X) (h2 : ∀ β, J β → wpSs c (dropS n b) β N X) : wpSs c b α N X := by
  rw [split_S c X n b α N]
  exact h1 _ h2
/-- an item of a list whose items are such -/
theorem onO_at {xs : List D} {r : Int} {P : D → Prop} {k : D → Prop} (p : ∀ x ∈ xs, P x) (h0 : 0 ≤ r) (h1 : r < xs.length) (h : ∀ d, P d → k d) : onO (atD xs r) k := by
  obtain ⟨i, rfl⟩ : ∃ i : Nat, r = Int.ofNat i := ⟨r.toNat, (Int.toNat_of_nonneg h0).symm⟩
  have hi : i < xs.length := Int.ofNat_lt.mp h1
  refine onO_s (show atD xs (Int.ofNat i) = some xs[i] from ?_) (h _ (p _ (List.getElem_mem hi)))
  show getL xs i = _
  rw [getL_eq, List.getElem?_eq_getElem hi]
theorem onO_getL {xs : List D} {i : Nat} {k : D → Prop} (hi : i < xs.length) (h : k xs[i]) : onO (getL xs i) k := by
  refine onO_s ?_ h
  rw [getL_eq, List.getElem?_eq_getElem hi]
theorem nat_of {r : Int} (h : 0 ≤ r) : ∃ n : Nat, r = Int.ofNat n := ⟨r.toNat, (Int.toNat_of_nonneg h).symm⟩
theorem onO_atT {s : T} {r : Int} {k : Nat → Prop} (h0 : 0 ≤ r) (h1 : r < s.length) (h : ∀ c ∈ s, k c) : onO (atD s r) k := by
  obtain ⟨i, rfl⟩ := nat_of h0
  have hi : i < s.length := Int.ofNat_lt.mp h1
  refine onO_s (show atD s (Int.ofNat i) = some s[i] from ?_) (h _ (List.getElem_mem hi))
  show getL s i = _
  rw [getL_eq, List.getElem?_eq_getElem hi]
theorem ints_map' (ns : List Int) : ints? (ns.map .int) = some ns := by
  induction ns with
  | nil => rfl
  | cons i r ih =>
    show (ints? (r.map D.int)).map (i :: ·) = _
    rw [ih]
    rfl
/-- xs[:n], all of it -/
theorem cut_pre {α : Type} {xs : List α} {n : Int} (h : (xs.length : Int) ≤ n) : cut xs none (some n) = xs := by
  have e : clip xs.length xs.length (some n) = xs.length := by
    unfold clip
    simp only
    rw [if_neg (by omega)]
    omega
  have e0 : clip xs.length 0 none = 0 := rfl
  unfold cut
  rw [e, e0, List.drop_zero, Nat.sub_zero, List.take_length]
theorem clip_le {n d : Nat} {o : Option Int} (h : d ≤ n) : clip n d o ≤ n := by
  unfold clip
  cases o with
  | none => exact h
  | some i =>
    simp only
    split <;> omega
theorem cut_len {α : Type} (xs : List α) (lo hi : Option Int) : (cut xs lo hi).length ≤ xs.length := by
  unfold cut
  rw [List.length_take, List.length_drop]
  have := clip_le (n := xs.length) (d := xs.length) (o := hi) (Nat.le_refl _)
  omega
theorem cut_mem {α : Type} {xs : List α} {lo hi : Option Int} {x : α} (h : x ∈ cut xs lo hi) : x ∈ xs := List.mem_of_mem_drop (List.mem_of_mem_take h)
theorem depL_le {xs : List D} {n : Nat} (h : ∀ x ∈ xs, x.dep ≤ n) : depL xs ≤ n := by
  induction xs with
  | nil => exact Nat.zero_le _
  | cons x r ih =>
    show max x.dep (depL r) ≤ n
    have := h x List.mem_cons_self
    have := ih fun y hy => h y (List.mem_cons_of_mem _ hy)
    omega
end Am

set_option maxHeartbeats 4000000
namespace Am
open PySem PySem.Spec PyProof.Rows L2
variable [CN]
section
variable {X : Cx} {rx : RX} {c : Am.Ctx} {W : WX} {sg : List Bool} {a b d e : Expr} {rest es : List Expr} {pos : Pos} {ma mb md : ME} {ms : MEs}
/-- a statement that is not reached -/
theorem s_never {st : Stmt} : PS X st (tS X.K rx c W sg .never) := ⟨fun pins s σ H D I ⟨α, Z, F, N, X', I', w⟩ => (show False from w).elim⟩
theorem cr_dict : CallR X (.type "dict") (rBi X.K c .dict) := fun pins s σ H xs us Q I r ⟨Z, vs, k, zt, rl, w, res⟩ => by
  match vs, w, rl with
  | [v], w, rl =>
    obtain ⟨kvs, e, w⟩ := onO.el w
    exact cr_dict0 pins s σ H xs us Q I r ⟨Z, [v], k, v, kvs, zt, rl, rfl, e, w, res⟩
/-- a list is made longer by a tuple's items -/
theorem ext_tup (l b : Addr) (xs ys : Array Value) (n m : Nat) (sl : Array (Option Value)) (h0 : ¬(!xs.isEmpty && Builtin.List.listTooLong (xs.size + ys.size)) = true) (h1 : xs.size ≤ sizeLine) (h2 : xs.size + ys.size ≤ sizeLine + 1) :
    Meets (Builtin.«list.extend» ⟨[.ref l, .ref b], []⟩) (fun _ R s => s.heap.get? l = some { cls := .type "list", dict := none, data := .seq xs n } ∧ s.heap.get? b = some { cls := .type "tuple", dict := none, data := .seq ys m, slots := sl } ∧ R (.ok (.ret Value.none)) { s with heap := s.heap.update l (Obj.mapSeq fun x => x ++ ys) }) :=
  .of_wp fun prog w A R s h => by
    obtain ⟨hp, g, d, tk, os⟩ := s
    obtain ⟨hl, hb, h⟩ := h
    have q := PySem.AutoSeq1.idx_int
    have q1 := PySem.AutoSeq1.sub_tuple_tuple
    have q2 := PySem.AutoSeq1.sub_list_list
    have q3 := PySem.AutoSeq1.sub_tuple_list
    have q4 := PySem.AutoSeq1.sub_list_tuple
    have h3 : (xs ++ ys).size ≤ sizeLine + 1 := by rw [Array.size_append]; exact h2
    wp_walk using (wpAny_updateSeq hl rfl (hz := h1) (_hz' := h3)), wpAny_loadPart' hl, wpAny_loadPart' hb
    exact ⟨_, rfl, h⟩
def rExtT : V → List V → Hp → VK → Prop := fun x vs H Q => ∃ l b xs zs, x = .ref l ∧ vs = [.ref b] ∧ H l = some (.lst xs) ∧ TF H b zs ∧ xs.length + zs.length ≤ sizeLine ∧ Q .non (upd H l (.lst (xs ++ zs)))
theorem mt_ext2 : MtM X "list.extend" (fun x vs H Q => rExtend x vs H Q ∨ rExtT x vs H Q) := by
  intro pins s σ H x vs v us Q I rx rv h
  rcases h with h | ⟨l, b, xs, zs, rfl, rfl, hH, tf, hz, q⟩
  · exact mt_extend pins s σ H x vs v us Q I rx rv h
  cases rx
  obtain ⟨u, rfl, ru⟩ := rv.one
  cases ru
  obtain ⟨z, its, n, r, hl, e⟩ := I.lstM hH
  obtain ⟨ob, hb, hd, hc⟩ := tf
  obtain ⟨e2, hz2, its2, r2, ⟨o2, g2, c2, n2, hdat⟩⟩ := I.hok b _ hb
  rw [e2] at g2
  cases g2
  obtain ⟨oc, od, odat, osl⟩ := ob
  have hd : od = none := hd
  have hc : oc = .type "tuple" := hc
  have hdat : odat = .seq its2.toArray n2 := hdat
  subst hd
  subst hc
  subst hdat
  have l2 : its2.length = zs.length := r2.length.symm
  have hs : its.toArray.size + its2.toArray.size ≤ sizeLine := by rw [List.size_toArray, List.size_toArray]; omega
  refine call_meets PySem.F.slot_list_extend ⟨_, e, rfl⟩ PySem.F.entry_list_extend (PySem.F.args_list_extend_2 _ _)
    (ext_tup l b its.toArray its2.toArray n n2 osl (by rw [notLongL hs, Bool.and_false]; exact Bool.false_ne_true) (by rw [List.size_toArray]; omega) (by omega)) ⟨e, e2, ?_⟩
  refine ⟨.non, _, I.lset (its' := its ++ its2) hH e (by simp) (r.append r2) ?_, rfl, q⟩
  rw [List.length_append]
  omega
/-- xs.extend(a new list) -/
theorem ext_run {i : Nat} {σ : L2.St} {H : Hp} {Q : VK} (h : tE X.K rx c W (.mut .extend (.v i) ms) σ H Q) : tBX X Mu.extend.nm (tVar i) (tEs X.K rx c W ms) σ H Q := by
  obtain ⟨α, Z, F, P, X', I, w⟩ := tE.el h
  have w : onO (getP (.v i) α) fun o => onMu .extend (kindA o) (wpEs c ms α (fun vs α1 => onO (getP (.v i) α1) fun o1 => onSame (kindA o) (kindA o1) (mutQ .extend o1 vs fun v o' => P v (setP (.v i) α1 (some o')))) X') := w
  obtain ⟨o, eo, w⟩ := onO.el w
  obtain ⟨x, Fi, Fr, h1, r0, _⟩ := I.rs.get eo
  refine ⟨x, h1, ?_⟩
  cases ek : kindA o with
  | l =>
    have ty : ∃ ds, list? o = some ds := by
      cases o with
      | p d => cases d <;> first | exact ⟨_, rfl⟩ | cases ek
      | ol ds => exact ⟨_, rfl⟩
      | ll a ds => exact ⟨_, rfl⟩
      | od _ => cases ek
      | ld _ _ => cases ek
      | oi _ _ => cases ek
    obtain ⟨ds, el⟩ := ty
    obtain ⟨l0, vs0, rfl, q0, _⟩ := r0.list el
    rw [ek] at w
    refine ⟨"list", _, _, ⟨PySem.F.plainAttrs_list, PySem.F.slot_list_extend, PySem.F.type_list_extend, mt_ext2⟩, .inl ⟨rfl, vs0, q0⟩, ?_⟩
    refine I.vals (show wpEs c ms α _ X' from w) fun vs α1 H1 Z1 F1 xs Fx w1 I1 s1 g1 rl => ?_
    obtain ⟨o1, eo1, w2⟩ := onO.el w1
    have I2 := I.frz s1 g1 I1.rs
    cases o1 with
    | ol ds1 =>
      match vs, w2, rl with
      | [.ol ys], w2, rl =>
        obtain ⟨hz, wk⟩ : ds1.length + ys.length ≤ big ∧ P (.p .non) (setP (.v i) α1 (some (.ol (ds1 ++ ys)))) := w2
        obtain ⟨l, ws, hσ, hl, rr, wr⟩ := I2.lst eo1
        rw [h1] at hσ
        cases hσ
        obtain ⟨y, q, Fa, Fb, rfl, rfl, ⟨b, zs, rfl, rfl, hb, rz⟩, ⟨rfl, rfl⟩⟩ := rl
        have rz' : RDs X.K H1 (fun a => Z1 a ∨ a ∈ ([b] ++ [] : List Addr)) ys zs := RDs.keep (.z fun _ h => .inl h) ys rz
        refine .inl ⟨l0, b, ws, zs, rfl, rfl, hl, hb, by rw [← rr.len, ← rz'.len]; exact hz, ?_⟩
        obtain ⟨F', sw, I3⟩ := wr (ds1 ++ ys) (ws ++ zs) (rr.app rz')
        exact I3.now wk rfl
      | [.p (.tup ys)], w2, rl =>
        obtain ⟨hz, wk⟩ : ds1.length + ys.length ≤ big ∧ P (.p .non) (setP (.v i) α1 (some (.ol (ds1 ++ ys)))) := w2
        obtain ⟨l, ws, hσ, hl, rr, wr⟩ := I2.lst eo1
        rw [h1] at hσ
        cases hσ
        obtain ⟨y, q, Fa, Fb, rfl, rfl, ⟨⟨b, zs, rfl, hb, rz⟩, rfl⟩, ⟨rfl, rfl⟩⟩ := rl
        have rz' := RDs.keep (Keep.z (H := H1) (Z := Z1) (Z' := fun a => Z1 a ∨ a ∈ ([] ++ [] : List Addr)) fun _ h => .inl h) ys rz
        refine .inr ⟨l0, b, ws, zs, rfl, rfl, hl, hb, by rw [← rr.len, ← rz'.len]; exact hz, ?_⟩
        obtain ⟨F', sw, I3⟩ := wr (ds1 ++ ys) (ws ++ zs) (rr.app rz')
        exact I3.now wk rfl
      | [.p .non], w2, rl => exact w2.elim
      | [.p (.bl _)], w2, rl => exact w2.elim
      | [.p (.int _)], w2, rl => exact w2.elim
      | [.p (.str _)], w2, rl => exact w2.elim
      | [.p (.lst _)], w2, rl => exact w2.elim
      | [.p (.dct _)], w2, rl => exact w2.elim
      | [.p (.exc _ _)], w2, rl => exact w2.elim
      | [.p (.exs _ _)], w2, rl => exact w2.elim
      | [.od d], w2, rl => exact w2.elim
      | [.ld _ d], w2, rl => exact w2.elim
      | [.ll _ d], w2, rl => exact w2.elim
      | [.oi _ d], w2, rl => exact w2.elim
    | od _ => exact w2.elim
    | ld _ _ => exact w2.elim
    | oi _ _ => exact w2.elim
    | ll a ds => exact w2.elim
    | p d => cases d <;> exact w2.elim
  | d => rw [ek] at w; exact w.elim
  | t => rw [ek] at w; exact w.elim
  | s => rw [ek] at w; exact w.elim
  | o => rw [ek] at w; exact w.elim
theorem s_ext {i : Nat} {x nm : Str} {p p2 : Pos} (ha : PA X (e :: es) (tEs X.K rx c W ms)) (hN : X.N[i]? = some x := by rfl) (hv : Vis X.env.scope x := by first | exact .inl rfl | exact .inr (.inl rfl) | exact .inr (.inr rfl)) (hnm : nm = Mu.extend.nm := by rfl)
    (hd : (x == ("__debug__" : Str)) = false := by decide) (hcd : (x == ("__classdict__" : Str)) = false := by decide) (hbase : attributeBase (.Name x p) nm X.env (eval (.Name x p) X.env) = eval (.Name x p) X.env := by rfl)
    (hfew : ((backTo pos (starEach (e :: es) X.env)).all (fun x => !x.1) && (backToKw pos (keywordEach [] X.env)).all (fun x => x.1.isSome)
      && decide ((e :: es).length + ([] : List Keyword).length + (if ([] : List Keyword).isEmpty then 0 else 1) < 30)) = true := by rfl)
    (hline : (p2.endLine == pos.line) = true := by rfl) (hs : starEach (e :: es) X.env = (false, eval e X.env) :: starEach es X.env := by rfl) (hplain : (backTo pos (starEach es X.env)).any (·.1) = false := by rfl) :
    PE X (.Call (.Attribute (.Name x p) nm p2) (e :: es) [] pos) (tE X.K rx c W (.mut .extend (.v i) ms)) := by
  subst hnm
  exact PE.weak (pe_bx (pe_var hN hv hd hcd) ha hbase hfew hline hs hplain) fun σ H Q h => ext_run h
/-- a[::s] -/
theorem pick_one (items : Array Value) : slicePick items none none (some 1) = items := slicePick_all items
theorem pe_slcT {te ts : TE} {p3 : Pos} (he : PE X e te) (hst : PE X d ts) (hsub : ∀ v l, subscripted (.Slice none none (some d) p3) false v (.ref l) = operate [v, .ref l] (getItem v (.ref l)) := by intro _ _; rfl) :
    PE X (.Subscript e (.Slice none none (some d) p3) pos) (fun σ H Q => te σ H fun x H1 => ts σ H1 fun y H2 => ∃ i, y = .int i ∧ ∃ Z v F k, Zt H2 Z ∧ RA X.K H2 Z v x F ∧ slcTQ v i k ∧ ResP X.K H2 Z k Q) := by
  refine ⟨fun pins s σ H Q I h => ?_⟩
  refine Subscript_ (thn (he.run pins s σ H _ I h) fun v s1 ⟨x, H1, I1, r1, q1⟩ => ?_)
  refine wpAny_Slice (thn (po_none.run pins s1 σ H1 (fun o H2 => o = none ∧ H2 = H1) I1 ⟨rfl, rfl⟩) fun vl s2 ⟨l, H2, I2, pl, el, e2⟩ => ?_)
  subst el e2
  refine thn (po_none.run pins s2 σ H2 (fun o H3 => o = none ∧ H3 = H2) I2 ⟨rfl, rfl⟩) fun vu s3 ⟨u, H3, I3, pu, eu, e3⟩ => ?_
  subst eu e3
  have hp : PO X (some d) (tPart ts) := po_some hst
  refine thn (hp.run pins s3 σ H3 (fun o H4 => match o with | some i => ∃ Z v F k, Zt H4 Z ∧ RA X.K H4 Z v x F ∧ slcTQ v i k ∧ ResP X.K H4 Z k Q | none => False) I3 q1) fun vs s4 ⟨o, H4, I4, ps, q4⟩ => ?_
  cases o with
  | none => exact q4.elim
  | some i =>
    obtain ⟨Z, v1, F1, k, zt, ra, wq, res⟩ := q4
    have I5 : Inv X pins σ H4 { s4 with heap := s4.heap.push { cls := .type "slice", data := .fields #[vl, vu, vs] } } := I4.kept (t' := s4.toks) fun b ob q => Heap.get?_push_of_some _ q
    obtain ⟨ds, ed, wq2⟩ := onO.el wq
    obtain ⟨ad, ws, rfl, q, hr⟩ := ra.list ed
    cases r1
    obtain ⟨its, rv, ht, hz⟩ := I5.list q
    have hlen := rv.length
    refine tail_any (ops := [.ref ad, .ref s4.heap.objs.size]) ht.isList.typeIs (PySem.slot_list_getitem.lookup) ?_ (hsub _ _)
    rcases wq2 with ⟨rfl, wk⟩ | ⟨rfl, wk⟩
    · refine wpAny_getItem_list_slice ht.isList (Heap.IsSliceOf.new _ vl vu vs) pl pu ps (by decide) ?_ (by rw [List.size_toArray]; omega)
      rw [pick_one]
      refine ⟨.ref _, _, I5.laid (t' := s4.toks) (o := .lst ws) (fun b ob q => Heap.get?_push_of_some _ q) (Nat.le_refl _) ?_, rfl, res.lst zt wk hr (I5.hok.fresh (Nat.le_refl _))⟩
      exact ⟨hz, _, 0, rv, Heap.get?_push_size _ rfl⟩
    · refine wpAny_getItem_list_slice ht.isList (Heap.IsSliceOf.new _ vl vu vs) pl pu ps (by decide) ?_ (by rw [List.size_toArray]; omega)
      rw [PySem.W.krv_pick]
      refine ⟨.ref _, _, I5.laid (t' := s4.toks) (o := .lst ws.reverse) (fun b ob q => Heap.get?_push_of_some _ q) (Nat.le_refl _) ?_, rfl, res.lst zt wk hr.rev (I5.hok.fresh (Nat.le_refl _))⟩
      exact ⟨by rw [List.length_reverse]; exact hz, _, 0, rv.reverse, Heap.get?_push_size _ rfl⟩
theorem s_slcT {p3 : Pos} (ha : PE X a (tO X.K rx c W ma)) (hd : PE X d (tE X.K rx c W md)) (h1 : okO ma = true := by rfl) (hsub : ∀ v l, subscripted (.Slice none none (some d) p3) false v (.ref l) = operate [v, .ref l] (getItem v (.ref l)) := by intro _ _; rfl) :
    PE X (.Subscript a (.Slice none none (some d) p3) pos) (tE X.K rx c W (.slcT ma md)) := PE.weak (pe_slcT ha hd hsub) fun σ H Q h => by
  obtain ⟨α, Z, F, P, X', I, w⟩ := tE.el h
  refine I.opd h1 w fun v α1 H1 Z1 F1 x Fx w1 I1 s1 g1 o1 => ?_
  refine I1.val w1 fun u α2 H2 Z2 F2 y Fy w2 I2 s2 g2 r2 => ?_
  obtain ⟨i, rfl, w3⟩ := onI.el w2
  obtain ⟨v', Fv, r, w4⟩ := (o1.frame g1 s2).fetch I2.rs w3
  have I3 := I1.frz s2 g2 I2.rs
  exact ⟨i, r2.1, _, v', Fv, fun v => P v α2, I2.g.zt, r, w4, I2.res⟩
end
end Am

set_option maxHeartbeats 4000000
namespace Am
open PySem PySem.Spec PyProof.Rows L2
variable [CN]
section
variable {K : PySem.W.Frag} {rx : RX} {c : Am.Ctx} {W : WX} {H H' H1 H2 : Hp} {Z Z' Z1 Z2 : ZP} {F F' F1 F2 Fx Fy Fr : List Addr} {α β : Sl} {σ σ' : L2.St} {a : Addr} {od : Obj} {u : List (L2.Key × V)}
theorem xf_unl (ha : H a = some (.frz od (.dK u))) {o' : HO} {f : Str} {d : Option Addr} : ∀ {ys : List V}, XF f d H ys → XF f d (upd H a o') ys
  | [], h => h
  | [_], ⟨dd, fs, e, h, l⟩ => ⟨dd, fs, e, by rw [upd_ne (fun z => by rw [z, ha] at h; cases h)]; exact h, l⟩
  | _ :: _ :: _, h => h
mutual
theorem RD.unl (ha : H a = some (.frz od (.dK u))) (hz : ¬ Z a) {o' : HO} : ∀ (d : D) {x : V}, RD K H Z d x → RD K (upd H a o') Z d x
  | .non, _, h => h
  | .bl _, _, h => h
  | .int _, _, h => h
  | .str _, _, h => h
  | .tup ds, _, ⟨b, vs, e, ⟨o, h, q⟩, r⟩ => ⟨b, vs, e, ⟨o, by rw [upd_ne (fun z => by rw [z, ha] at h; cases h)]; exact h, q⟩, RDs.unl ha hz ds r⟩
  | .lst ds, _, ⟨b, vs, e, h, r⟩ => ⟨b, vs, e, by
      rcases h with ⟨z, h⟩ | h
      · refine .inl ⟨z, ?_⟩
        have hb : b ≠ a := fun e => hz (e ▸ z)
        rcases h with h | ⟨o, h⟩
        · exact .inl (by rw [upd_ne hb]; exact h)
        · exact .inr ⟨o, by rw [upd_ne hb]; exact h⟩
      · exact .inr h, RDs.unl ha hz ds r⟩
  | .dct kvs, _, ⟨b, ws, e, z, h, r⟩ => ⟨b, ws, e, z, by
      have hb : b ≠ a := fun e => hz (e ▸ z)
      rcases h with h | ⟨o, h⟩
      · exact .inl (by rw [upd_ne hb]; exact h)
      · exact .inr ⟨o, by rw [upd_ne hb]; exact h⟩, RK.unl ha hz kvs r⟩
  | .exc e ds, _, ⟨le, b, oe, ys, ex, h, hc, hd, hf, r⟩ => ⟨le, b, oe, ys, ex, by rw [upd_ne (fun z => by rw [z, ha] at h; cases h)]; exact h, hc, hd, xf_unl ha hf, RDs.unl ha hz ds r⟩
  | .exs e s, _, h => h.k fun b oe q => by rw [upd_ne (fun z => by rw [z, ha] at q; cases q)]; exact q
theorem RDs.unl (ha : H a = some (.frz od (.dK u))) (hz : ¬ Z a) {o' : HO} : ∀ (ds : List D) {vs : List V}, RDs K H Z ds vs → RDs K (upd H a o') Z ds vs
  | [], _, h => h
  | d :: r, _, ⟨x, q, e, h1, h2⟩ => ⟨x, q, e, RD.unl ha hz d h1, RDs.unl ha hz r h2⟩
theorem RK.unl (ha : H a = some (.frz od (.dK u))) (hz : ¬ Z a) {o' : HO} : ∀ (kvs : List (Am.Key × D)) {ws : List (L2.Key × V)}, RK K H Z kvs ws → RK K (upd H a o') Z kvs ws
  | [], _, h => h
  | (_, d) :: r, _, ⟨x, q, e, h1, h2⟩ => ⟨x, q, e, RD.unl ha hz d h1, RK.unl ha hz r h2⟩
end
theorem Shell.unl (ha : H a = some (.frz od (.dK u))) {o' : HO} {c : Nat} {b : Addr} {vs : List V} (h : Shell H Z c b vs) : Shell (upd H a o') Z c b vs := by
  match c, h with
  | 0, ⟨z, h⟩ => exact ⟨z, by rw [upd_ne (fun q => by rw [q, ha] at h; cases h)]; exact h⟩
  | 1, ⟨o, h, q⟩ => exact ⟨o, by rw [upd_ne (fun z => by rw [z, ha] at h; cases h)]; exact h, q⟩
  | _ + 2, ⟨z, l, dx, h⟩ => exact ⟨z, l, dx, by rw [upd_ne (fun q => by rw [q, ha] at h; cases h)]; exact h⟩
theorem PathTo.unl (ha : H a = some (.frz od (.dK u))) {o' : HO} : ∀ {p : Pl} {x : V}, PathTo σ H Z p x → PathTo σ (upd H a o') Z p x
  | .v _, _, h => h
  | .f _ _ _, _, ⟨b, vs, h, sh, e⟩ => ⟨b, vs, PathTo.unl ha h, sh.unl ha, e⟩
mutual
theorem RA.unl (ha : H a = some (.frz od (.dK u))) (hz : ¬ Z a) {o' : HO} : ∀ {v : AV} {x : V} {Fx : List Addr}, nlV v → RA K H Z v x Fx → RA K (upd H a o') Z v x Fx
  | .p d, _, _, _, h => ⟨RD.unl ha hz d h.1, h.2⟩
  | .ol ds, _, _, _, ⟨b, vs, e, ef, hb, r⟩ => ⟨b, vs, e, ef, by rw [upd_ne (fun z => by rw [z, ha] at hb; cases hb)]; exact hb, RDs.unl ha hz ds r⟩
  | .od kvs, _, _, _, ⟨b, ws, e, ef, hb, r⟩ => ⟨b, ws, e, ef, by rw [upd_ne (fun z => by rw [z, ha] at hb; cases hb)]; exact hb, RK.unl ha hz kvs r⟩
  | .ll b ds, _, _, _, ⟨vs, e, ef, hb, r⟩ => ⟨vs, e, ef, by rw [upd_ne (fun z => by rw [z, ha] at hb; cases hb)]; exact hb, RDs.unl ha hz ds r⟩
  | .ld b kvs, _, _, hn, _ => hn.elim
  | .oi c fs, _, _, hn, ⟨b, vs, e, sh, r⟩ => ⟨b, vs, e, sh.unl ha, RAs.unl ha hz hn r⟩
theorem RAs.unl (ha : H a = some (.frz od (.dK u))) (hz : ¬ Z a) {o' : HO} : ∀ {α : List (Option AV)} {σ : L2.St} {Fx : List Addr}, noLd α → RAs K H Z α σ Fx → RAs K (upd H a o') Z α σ Fx
  | [], _, _, _, h => h
  | none :: r, _, _, hn, ⟨y, q, e, h⟩ => ⟨y, q, e, RAs.unl ha hz hn.2 h⟩
  | some v :: r, _, _, hn, ⟨x, q, F1, F2, e, ef, h1, h2⟩ => ⟨x, q, F1, F2, e, ef, RA.unl ha hz hn.1 h1, RAs.unl ha hz hn.2 h2⟩
end
theorem getS_lt : ∀ {α : Sl} {i : Nat} {v : AV}, getS α i = some v → i < α.length
  | [], _, _, h => by cases h
  | _ :: _, 0, _, _ => Nat.succ_pos _
  | _ :: r, i + 1, _, h => Nat.succ_lt_succ (getS_lt (α := r) (i := i) h)
theorem getS_setS : ∀ {α : Sl} {i : Nat} {w : Option AV}, i < α.length → getS (setS α i w) i = w
  | [], _, _, h => absurd h (Nat.not_lt_zero _)
  | _ :: _, 0, w, _ => by cases w <;> rfl
  | _ :: r, i + 1, w, h => getS_setS (α := r) (i := i) (w := w) (Nat.lt_of_succ_lt_succ h)
theorem getS_out : ∀ {α : Sl} {i : Nat}, ¬ i < α.length → getS α i = none
  | [], _, _ => rfl
  | _ :: _, 0, h => absurd (Nat.succ_pos _) h
  | _ :: r, i + 1, h => getS_out (α := r) (i := i) fun z => h (Nat.succ_lt_succ z)
theorem getP_setP : ∀ {p : Pl} {α : Sl} {v : AV} {w : Option AV}, getP p α = some v → getP p (setP p α w) = w
  | .v i, α, v, w, e => getS_setS (getS_lt e)
  | .f p c j, α, v, w, e => by
    obtain ⟨fs, ep, ej, es⟩ := plF e
    rw [es]
    show (match getP p (setP p α (some (.oi c (setS fs j w)))) with
      | some (.oi d fs) => (match Nat.beq d c with
        | true => getS fs j
        | false => none)
      | _ => none) = w
    rw [getP_setP ep]
    show (match Nat.beq c c with
        | true => getS (setS fs j w) j
        | false => none) = w
    rw [Nat.beq_refl]
    exact getS_setS (getS_lt ej)
theorem setP_setP : ∀ {p : Pl} {α : Sl} {v : AV} {w u : Option AV}, getP p α = some v → setP p (setP p α w) u = setP p α u
  | .v i, α, v, w, u, e => setS_setS α i w u
  | .f p c j, α, v, w, u, e => by
    obtain ⟨fs, ep, ej, es⟩ := plF e
    rw [es, es, plY (getP_setP ep), setP_setP ep, setS_setS]
/-- a hole is filled -/
theorem RS.refill {p : Pl} {v w : AV} {x : V} {Fw : List Addr} (rs : RS K H Z (setP p α none) σ F) (e : getP p α = some v) (hp : PathTo σ H Z p x) (hw : RA K H Z w x Fw) : ∃ F3 rest, RS K H Z (setP p α (some w)) σ F3 ∧ (F ++ Fw).Perm (F3 ++ rest) := by
  obtain ⟨F3, rest, h, q⟩ := (rs.backP hp).1 w Fw hw
  rw [setP_setP e] at h
  exact ⟨F3, rest, h, q⟩
/-- a dict of one's own is held fast -/
theorem lock_core {p : Pl} {kvs : List (Am.Key × D)} (rs : RS K H Z α σ F) (g : G3 H Z F) (e : getP p α = some (.od kvs)) :
    ∃ a ws, H a = some (.dK ws) ∧ a ∈ F ∧ ¬ Z a ∧ PathTo σ H Z p (.ref a) ∧ ∀ od, ∃ F1, a ∉ F1 ∧ (∀ b ∈ F1, b ∈ F) ∧ RS K (upd H a (.frz od (.dK ws))) Z (setP p α (some (.ld a kvs))) σ F1 ∧ G3 (upd H a (.frz od (.dK ws))) Z F1 := by
  obtain ⟨x, Fi, Fr, h1, ⟨a, ws, rfl, rfl, ha, r⟩, q, _, gone⟩ := rs.lens e
  have g1 := g.perm q
  have gl : G3 H Z [a] := g1.left
  have naF : a ∉ Fr := fun h => g1.dis a h (by simp)
  have nz : ¬ Z a := gl.nz a (by simp)
  refine ⟨a, ws, ha, q.mem_iff.mpr (by simp), nz, h1, fun od => ?_⟩
  have st : Step H Z [a] (upd H a (.frz od (.dK ws))) Z [] := ⟨fun b o hb hn => by rw [upd_ne (by simpa using hn)]; exact hb, fun b hb => absurd hb (by simp), fun _ z => z, fun _ z => .inl z, fun b hb => by
    by_cases z : b = a
    · rw [z, upd_same]; simp
    · rw [upd_ne z]; exact hb⟩
  have kp : Keep H Z (upd H a (.frz od (.dK ws))) Z := st.keep gl
  have gone1 : RS K (upd H a (.frz od (.dK ws))) Z (setP p α none) σ Fr := gone.frame gl st g1.dis
  obtain ⟨F3, rest, rs2, p2⟩ := gone1.refill (w := .ld a kvs) e (h1.keep kp) ⟨ws, od, rfl, rfl, upd_same, RK.keep kp kvs r⟩
  rw [List.append_nil] at p2
  have gr : G3 (upd H a (.frz od (.dK ws))) Z Fr := by
    refine ⟨g1.right.nd, g1.right.nz, fun b hb => ?_, fun b z => ?_⟩
    · have hba : b ≠ a := fun z => naF (by rw [← z]; exact hb)
      rw [upd_ne hba]; exact g1.right.ow b hb
    · by_cases e2 : b = a
      · rw [e2, upd_same]; simp
      · rw [upd_ne e2]; exact g.zt b z
  have sub2 : ∀ b ∈ F3, b ∈ Fr := fun b hb => p2.mem_iff.mpr (List.mem_append_left _ hb)
  exact ⟨F3, fun h => naF (sub2 a h), fun b hb => q.mem_iff.mpr (List.mem_append_right _ (sub2 b hb)), rs2, (gr.perm p2).left⟩
/-- .. and set free: the heap behind, from the heap ahead -/
theorem unlock_core {p : Pl} {kvs : List (Am.Key × D)} {ws : List (L2.Key × V)} (g : G3 H Z F) (ha : H a = some (.dK ws)) (haF : a ∈ F) (hz : ¬ Z a) (hF1 : ∀ b ∈ F1, b ∈ F) (hn1 : a ∉ F1)
    (s : Step (upd H a (.frz od (.dK ws))) Z F1 H' Z' (F' ++ Fx)) (g' : G3 H' Z' (F' ++ Fx)) (rs : RS K H' Z' β σ' F') (e : getP p β = some (.ld a kvs)) (nd : noLd (setP p β none)) :
    H' a = some (.frz od (.dK ws)) ∧ ¬ Z' a ∧ ∃ F2, RS K (upd H' a (.dK ws)) Z' (setP p β (some (.od kvs))) σ' F2 ∧ G3 (upd H' a (.dK ws)) Z' (F2 ++ Fx) ∧ Step H Z F (upd H' a (.dK ws)) Z' (F2 ++ Fx) := by
  have ha' : H' a = some (.frz od (.dK ws)) := s.fr a _ upd_same hn1
  have hz' : ¬ Z' a := fun z => by
    rcases s.zn a z with q | q | q
    · exact hz q
    · exact hn1 q
    · rw [upd_same] at q; cases q
  have naF : a ∉ F' ++ Fx := fun h => by
    have := g'.ow a h
    rw [ha'] at this
    exact this
  obtain ⟨x, Fi, Fr, h1, ⟨ws', o', rfl, rfl, ha2, r⟩, q, _, gone⟩ := rs.lens e
  rw [ha'] at ha2
  cases ha2
  obtain ⟨F0, q0, p0⟩ := gone
  have gone2 : RS K (upd H' a (.dK ws)) Z' (setP p β none) σ' Fr := ⟨F0, q0.unl ha' hz' nd, p0⟩
  obtain ⟨F3, rest, rs2, p2⟩ := gone2.refill (w := .od kvs) e (h1.unl ha') ⟨a, ws, rfl, rfl, upd_same, RK.unl ha' hz' kvs r⟩
  have sub2 : ∀ b ∈ Fr, b ∈ F' := fun b hb => q.mem_iff.mpr (List.mem_append_right _ hb)
  have gR : G3 H' Z' (Fr ++ Fx) := by
    have pp : (F' ++ Fx).Perm (Fr ++ Fx) := by
      rw [List.nil_append] at q
      exact List.Perm.append_right Fx q
    exact g'.perm pp
  have na2 : a ∉ Fr ++ Fx := fun h => by
    rcases List.mem_append.mp h with h | h
    · exact naF (List.mem_append_left _ (sub2 a h))
    · exact naF (List.mem_append_right _ h)
  have G : G3 (upd H' a (.dK ws)) Z' (a :: (Fr ++ Fx)) := by
    refine ⟨List.nodup_cons.mpr ⟨na2, gR.nd⟩, fun b hb z => ?_, fun b hb => ?_, fun b z => ?_⟩
    · rcases List.mem_cons.mp hb with e1 | hb
      · rw [e1] at z; exact hz' z
      · exact gR.nz b hb z
    · rcases List.mem_cons.mp hb with e1 | hb
      · rw [e1, upd_same]; trivial
      · have hba : b ≠ a := fun z => na2 (by rw [← z]; exact hb)
        rw [upd_ne hba]; exact gR.ow b hb
    · by_cases e1 : b = a
      · rw [e1, upd_same]; simp
      · rw [upd_ne e1]; exact g'.zt b z
  have S : Step H Z F (upd H' a (.dK ws)) Z' (a :: (Fr ++ Fx)) := by
    refine ⟨fun b o hb hn => ?_, fun b hb => ?_, s.zs, fun b z => ?_, fun b hb => ?_⟩
    · have hba : b ≠ a := fun z => hn (z ▸ haF)
      rw [upd_ne hba]
      exact s.fr b o (by rw [upd_ne hba]; exact hb) fun z => hn (hF1 b z)
    · rcases List.mem_cons.mp hb with e1 | hb
      · exact .inl (by rw [e1]; exact haF)
      · have hb' : b ∈ F' ++ Fx := by
          rcases List.mem_append.mp hb with h | h
          · exact List.mem_append_left _ (sub2 b h)
          · exact List.mem_append_right _ h
        rcases s.nw b hb' with q | q
        · exact .inl (hF1 b q)
        · have hba : b ≠ a := fun z => by rw [z, upd_same] at q; cases q
          rw [upd_ne hba] at q
          exact .inr q
    · rcases s.zn b z with q | q | q
      · exact .inl q
      · exact .inr (.inl (hF1 b q))
      · have hba : b ≠ a := fun z => by rw [z, upd_same] at q; cases q
        rw [upd_ne hba] at q
        exact .inr (.inr q)
    · by_cases e1 : b = a
      · rw [e1, upd_same]; simp
      · rw [upd_ne e1]
        exact s.tk b (by rw [upd_ne e1]; exact hb)
  have pp : (a :: (Fr ++ Fx)).Perm ((F3 ++ Fx) ++ rest) := by
    have a1 : (a :: (Fr ++ Fx)).Perm ((Fr ++ [a]) ++ Fx) := by
      have : (a :: (Fr ++ Fx)) = ([a] ++ Fr) ++ Fx := rfl
      rw [this]
      exact List.Perm.append_right Fx List.perm_append_comm
    refine a1.trans ((List.Perm.append_right Fx p2).trans ?_)
    rw [List.append_assoc, List.append_assoc]
    exact List.Perm.append_left F3 List.perm_append_comm
  exact ⟨ha', hz', F3, rs2, (G.perm pp).left, (S.permR pp).lessR fun _ h => List.mem_append_left _ h⟩
/-- the same, but for dicts that are set fast or free -/
def Lk (H H' : Hp) : Prop := ∀ b o, H b = some o → H' b = some o ∨ ∃ od u, (o = .dK u ∧ H' b = some (.frz od (.dK u))) ∨ (o = .frz od (.dK u) ∧ H' b = some (.dK u))
theorem Lk.same {o : HO} (k : Lk H H') {b : Addr} (h : H b = some o) (h1 : ∀ u, o ≠ .dK u) (h2 : ∀ od u, o ≠ .frz od (.dK u)) : H' b = some o := by
  rcases k b o h with q | ⟨od, u, ⟨q, _⟩ | ⟨q, _⟩⟩
  · exact q
  · exact absurd q (h1 u)
  · exact absurd q (h2 od u)
theorem Lk.tF (k : Lk H H') {b : Addr} {o : Obj} {vs : List V} (h : H b = some (.frz o (.tup vs))) : H' b = some (.frz o (.tup vs)) := k.same h (fun _ e => by cases e) (fun _ _ e => by cases e)
theorem Lk.lF (k : Lk H H') {b : Addr} {o : Obj} {vs : List V} (h : H b = some (.frz o (.lst vs))) : H' b = some (.frz o (.lst vs)) := k.same h (fun _ e => by cases e) (fun _ _ e => by cases e)
theorem Lk.ls (k : Lk H H') {b : Addr} {vs : List V} (h : H b = some (.lst vs)) : H' b = some (.lst vs) := k.same h (fun _ e => by cases e) (fun _ _ e => by cases e)
theorem Lk.xs (k : Lk H H') {b : Addr} {fs : List (Str × V)} (h : H b = some (.xd fs)) : H' b = some (.xd fs) := k.same h (fun _ e => by cases e) (fun _ _ e => by cases e)
theorem Lk.eo (k : Lk H H') {b : Addr} {oe : Obj} (h : H b = some (EO b oe)) : H' b = some (EO b oe) := k.same h (fun _ e => by cases e) (fun _ _ e => by cases e)
theorem Lk.rd (k : Lk H H') {b : Addr} {ws : List (L2.Key × V)} (h : Rd H b (.dK ws)) : Rd H' b (.dK ws) := by
  rcases h with h | ⟨o, h⟩
  · rcases k b _ h with q | ⟨od, u, ⟨q, q2⟩ | ⟨q, q2⟩⟩
    · exact .inl q
    · cases q
      exact .inr ⟨od, q2⟩
    · cases q
  · rcases k b _ h with q | ⟨od, u, ⟨q, q2⟩ | ⟨q, q2⟩⟩
    · exact .inr ⟨o, q⟩
    · cases q
    · cases q
      exact .inl q2
theorem Lk.xf (k : Lk H H') {f : Str} {d : Option Addr} : ∀ {ys : List V}, XF f d H ys → XF f d H' ys
  | [], h => h
  | [_], ⟨dd, fs, e, h, l⟩ => ⟨dd, fs, e, k.xs h, l⟩
  | _ :: _ :: _, h => h
mutual
theorem RD.lk (k : Lk H H') : ∀ (d : D) {x : V}, RD K H Z d x → RD K H' Z d x
  | .non, _, h => h
  | .bl _, _, h => h
  | .int _, _, h => h
  | .str _, _, h => h
  | .tup ds, _, ⟨b, vs, e, ⟨o, h, q⟩, r⟩ => ⟨b, vs, e, ⟨o, k.tF h, q⟩, RDs.lk k ds r⟩
  | .lst ds, _, ⟨b, vs, e, h, r⟩ => ⟨b, vs, e, by
      rcases h with ⟨z, h⟩ | h
      · refine .inl ⟨z, ?_⟩
        rcases h with h | ⟨o, h⟩
        · exact .inl (k.ls h)
        · exact .inr ⟨o, k.lF h⟩
      · exact .inr h, RDs.lk k ds r⟩
  | .dct kvs, _, ⟨b, ws, e, z, h, r⟩ => ⟨b, ws, e, z, k.rd h, RK.lk k kvs r⟩
  | .exc e ds, _, ⟨le, b, oe, ys, ex, h, hc, hd, hf, r⟩ => ⟨le, b, oe, ys, ex, k.eo h, hc, hd, k.xf hf, RDs.lk k ds r⟩
  | .exs e s, _, h => h.k fun _ _ q => k.eo q
theorem RDs.lk (k : Lk H H') : ∀ (ds : List D) {vs : List V}, RDs K H Z ds vs → RDs K H' Z ds vs
  | [], _, h => h
  | d :: r, _, ⟨x, q, e, h1, h2⟩ => ⟨x, q, e, RD.lk k d h1, RDs.lk k r h2⟩
theorem RK.lk (k : Lk H H') : ∀ (kvs : List (Am.Key × D)) {ws : List (L2.Key × V)}, RK K H Z kvs ws → RK K H' Z kvs ws
  | [], _, h => h
  | (_, d) :: r, _, ⟨x, q, e, h1, h2⟩ => ⟨x, q, e, RD.lk k d h1, RK.lk k r h2⟩
end
theorem Lk.ins (k : Lk H H') {b : Addr} {C dx : Addr} {fs : List (Str × V)} (h : H b = some (.ins C dx fs)) : H' b = some (.ins C dx fs) := k.same h (fun _ e => by cases e) (fun _ _ e => by cases e)
theorem Shell.lk (k : Lk H H') {c : Nat} {b : Addr} {vs : List V} (h : Shell H Z c b vs) : Shell H' Z c b vs := by
  match c, h with
  | 0, ⟨z, h⟩ => exact ⟨z, k.ls h⟩
  | 1, ⟨o, h, q⟩ => exact ⟨o, k.tF h, q⟩
  | _ + 2, ⟨z, l, dx, h⟩ => exact ⟨z, l, dx, k.ins h⟩
theorem PathTo.lk (k : Lk H H') : ∀ {p : Pl} {x : V}, PathTo σ H Z p x → PathTo σ H' Z p x
  | .v _, _, h => h
  | .f _ _ _, _, ⟨b, vs, h, sh, e⟩ => ⟨b, vs, PathTo.lk k h, sh.lk k, e⟩
mutual
theorem RA.lk (k : Lk H H') : ∀ {v : AV} {x : V} {Fx : List Addr}, (∀ b ∈ Fx, H' b = H b) → (nlV v ∨ ∀ b o u, H b = some (.frz o u) → H' b = some (.frz o u)) → RA K H Z v x Fx → RA K H' Z v x Fx
  | .p d, _, _, _, _, h => ⟨RD.lk k d h.1, h.2⟩
  | .ol ds, _, _, hF, _, ⟨b, vs, e, ef, hb, r⟩ => ⟨b, vs, e, ef, by rw [hF b (by rw [ef]; simp)]; exact hb, RDs.lk k ds r⟩
  | .od kvs, _, _, hF, _, ⟨b, ws, e, ef, hb, r⟩ => ⟨b, ws, e, ef, by rw [hF b (by rw [ef]; simp)]; exact hb, RK.lk k kvs r⟩
  | .ll b ds, _, _, hF, _, ⟨vs, e, ef, hb, r⟩ => ⟨vs, e, ef, by rw [hF b (by rw [ef]; simp)]; exact hb, RDs.lk k ds r⟩
  | .ld b kvs, _, _, _, hn, ⟨ws, o, e, ef, hb, r⟩ => ⟨ws, o, e, ef, hn.elim (fun h => h.elim) (fun h => h _ _ _ hb), RK.lk k kvs r⟩
  | .oi c fs, _, _, hF, hn, ⟨b, vs, e, sh, r⟩ => ⟨b, vs, e, sh.lk k, RAs.lk k hF hn r⟩
theorem RAs.lk (k : Lk H H') : ∀ {α : List (Option AV)} {σ : L2.St} {Fx : List Addr}, (∀ b ∈ Fx, H' b = H b) → (noLd α ∨ ∀ b o u, H b = some (.frz o u) → H' b = some (.frz o u)) → RAs K H Z α σ Fx → RAs K H' Z α σ Fx
  | [], _, _, _, _, h => h
  | none :: r, _, _, hF, hn, ⟨y, q, e, h⟩ => ⟨y, q, e, RAs.lk k hF (hn.imp (·.2) id) h⟩
  | some v :: r, _, _, hF, hn, ⟨x, q, F1, F2, e, ef, h1, h2⟩ =>
    ⟨x, q, F1, F2, e, ef, RA.lk k (fun b hb => hF b (by rw [ef]; exact List.mem_append_left _ hb)) (hn.imp (·.1) id) h1, RAs.lk k (fun b hb => hF b (by rw [ef]; exact List.mem_append_right _ hb)) (hn.imp (·.2) id) h2⟩
end
theorem RS.lk (k : Lk H H') (hF : ∀ b ∈ F, H' b = H b) (hn : noLd α ∨ ∀ b o u, H b = some (.frz o u) → H' b = some (.frz o u)) (h : RS K H Z α σ F) : RS K H' Z α σ F := let ⟨F0, h, p⟩ := h; ⟨F0, h.lk k (fun b hb => hF b (p.mem_iff.mpr hb)) hn, p⟩
theorem Lk.lock {od : Obj} (ha : H a = some (.dK u)) : Lk H (upd H a (.frz od (.dK u))) := fun b o h => by
  by_cases e : b = a
  · subst e
    rw [ha] at h
    cases h
    exact .inr ⟨od, u, .inl ⟨rfl, upd_same⟩⟩
  · exact .inl (by rw [upd_ne e]; exact h)
theorem Lk.free {od : Obj} (ha : H a = some (.frz od (.dK u))) : Lk H (upd H a (.dK u)) := fun b o h => by
  by_cases e : b = a
  · subst e
    rw [ha] at h
    cases h
    exact .inr ⟨od, u, .inr ⟨rfl, upd_same⟩⟩
  · exact .inl (by rw [upd_ne e]; exact h)
/-- a dict that is data -/
theorem dct_slot {p : Pl} {kvs : List (Am.Key × D)} (rs : RS K H Z α σ F) (e : getP p α = some (.p (.dct kvs))) : ∃ a ws, PathTo σ H Z p (.ref a) ∧ Z a ∧ Rd H a (.dK ws) ∧ RK K H Z kvs ws := by
  obtain ⟨x, Fi, Fr, h1, ⟨⟨a, ws, rfl, z, hr, rk⟩, rfl⟩, _⟩ := rs.lens e
  exact ⟨a, ws, h1, z, hr, rk⟩
/-- a slot's value is told otherwise -/
theorem RS.swap {p : Pl} {v w : AV} {x : V} (rs : RS K H Z α σ F) (e : getP p α = some v) (h1 : PathTo σ H Z p x) (hv : ∀ Fi, RA K H Z v x Fi → Fi = []) (hw : RA K H Z w x []) : RS K H Z (setP p α (some w)) σ F := by
  obtain ⟨y, Fi, Fr, h2, r, q, put, _⟩ := rs.lens e
  cases PathTo.fn h1 h2
  obtain rfl := hv Fi r
  have := put Z (fun _ h => h) w [] hw
  exact this.perm q.symm
theorem lockZ {p : Pl} {kvs : List (Am.Key × D)} {ws : List (L2.Key × V)} {od : Obj} (rs : RS K H Z α σ F) (g : G3 H Z F) (e : getP p α = some (.p (.dct kvs))) (h1 : PathTo σ H Z p (.ref a)) (z : Z a) (ha : H a = some (.dK ws)) (rk : RK K H Z kvs ws) :
    RS K (upd H a (.frz od (.dK ws))) Z (setP p α (some (.ld a kvs))) σ F ∧ G3 (upd H a (.frz od (.dK ws))) Z F := by
  have ne : ∀ b ∈ F, b ≠ a := fun b hb q => g.nz b hb (q ▸ z)
  have k : Lk H (upd H a (.frz od (.dK ws))) := Lk.lock ha
  have rs1 : RS K (upd H a (.frz od (.dK ws))) Z α σ F := rs.lk k (fun b hb => upd_ne (ne b hb)) (.inr fun b o u hb => by
    rw [upd_ne fun q => by rw [q, ha] at hb; cases hb]
    exact hb)
  refine ⟨rs1.swap (w := .ld a kvs) e (h1.lk k) (fun Fi h => h.2) ⟨ws, od, rfl, rfl, upd_same, RK.lk k kvs rk⟩, g.nd, g.nz, fun b hb => ?_, fun b hb => ?_⟩
  · rw [upd_ne (ne b hb)]; exact g.ow b hb
  · by_cases q : b = a
    · rw [q, upd_same]; simp
    · rw [upd_ne q]; exact g.zt b hb
theorem unlockZ {p : Pl} {kvs : List (Am.Key × D)} {ws : List (L2.Key × V)} {od : Obj} (g : G3 H Z F) (z : Z a) (ha : H a = some (.dK ws))
    (s : Step (upd H a (.frz od (.dK ws))) Z F H' Z' (F' ++ Fx)) (g' : G3 H' Z' (F' ++ Fx)) (rs : RS K H' Z' β σ' F') (e : getP p β = some (.ld a kvs)) (nd : noLd (setP p β none)) :
    H' a = some (.frz od (.dK ws)) ∧ a ∉ F' ++ Fx ∧ ∃ F2, RS K (upd H' a (.dK ws)) Z' (setP p β (some (.p (.dct kvs)))) σ' F2 ∧ G3 (upd H' a (.dK ws)) Z' (F2 ++ Fx) ∧ Step H Z F (upd H' a (.dK ws)) Z' (F2 ++ Fx) := by
  have naF : a ∉ F := fun h => g.nz a h z
  have ha' : H' a = some (.frz od (.dK ws)) := s.fr a _ upd_same naF
  have z' : Z' a := s.zs a z
  have na' : a ∉ F' ++ Fx := fun h => g'.nz a h z'
  obtain ⟨x, Fi, Fr, h1, ⟨ws', o', rfl, rfl, ha2, r⟩, q, _, gone⟩ := rs.lens e
  rw [ha'] at ha2
  cases ha2
  have k : Lk H' (upd H' a (.dK ws)) := Lk.free ha'
  have gone2 : RS K (upd H' a (.dK ws)) Z' (setP p β none) σ' Fr := gone.lk k (fun b hb => upd_ne fun e2 => na' (List.mem_append_left _ (q.mem_iff.mpr (by rw [← e2]; exact List.mem_append_right _ hb)))) (.inl nd)
  obtain ⟨Fr2, rest, rs2, p2⟩ := gone2.refill (w := .p (.dct kvs)) e (h1.lk k) ⟨⟨a, ws, rfl, z', .inl upd_same, RK.lk k kvs r⟩, rfl⟩
  rw [List.append_nil] at p2
  have sub : ∀ b ∈ Fr2 ++ Fx, b ∈ F' ++ Fx := fun b hb => by
    rcases List.mem_append.mp hb with h | h
    · exact List.mem_append_left _ (q.mem_iff.mpr (List.mem_append_right _ (p2.mem_iff.mpr (List.mem_append_left _ h))))
    · exact List.mem_append_right _ h
  have gR : G3 H' Z' (Fr2 ++ Fx) := by
    have pp : (F' ++ Fx).Perm ((Fr2 ++ Fx) ++ rest) := by
      rw [List.nil_append] at q
      refine (List.Perm.append_right Fx (q.trans p2)).trans ?_
      rw [List.append_assoc, List.append_assoc]
      exact List.Perm.append_left Fr2 List.perm_append_comm
    exact (g'.perm pp).left
  refine ⟨ha', na', Fr2, rs2, ⟨gR.nd, gR.nz, fun b hb => ?_, fun b hb => ?_⟩, ⟨fun b o hb hn => ?_, fun b hb => ?_, s.zs, fun b hz => ?_, fun b hb => ?_⟩⟩
  · rw [upd_ne fun q => na' (by rw [← q]; exact sub b hb)]; exact gR.ow b hb
  · by_cases q : b = a
    · rw [q, upd_same]; simp
    · rw [upd_ne q]; exact g'.zt b hb
  · by_cases q : b = a
    · rw [q] at hb ⊢
      rw [ha] at hb
      rw [upd_same]
      exact hb
    · rw [upd_ne q]
      exact s.fr b o (by rw [upd_ne q]; exact hb) hn
  · rcases s.nw b (sub b hb) with q | q
    · exact .inl q
    · have hba : b ≠ a := fun e1 => by rw [e1, upd_same] at q; cases q
      rw [upd_ne hba] at q
      exact .inr q
  · rcases s.zn b hz with q | q | q
    · exact .inl q
    · exact .inr (.inl q)
    · have hba : b ≠ a := fun e1 => by rw [e1, upd_same] at q; cases q
      rw [upd_ne hba] at q
      exact .inr (.inr q)
  · by_cases q : b = a
    · rw [q, upd_same]; simp
    · rw [upd_ne q]
      exact s.tk b (by rw [upd_ne q]; exact hb)
/-- .. that stood fast already -/
theorem backZ {p : Pl} {kvs : List (Am.Key × D)} (z : Z a) (s : Step H Z F H' Z' (F' ++ Fx)) (rs : RS K H' Z' β σ' F') (e : getP p β = some (.ld a kvs)) : RS K H' Z' (setP p β (some (.p (.dct kvs)))) σ' F' := by
  obtain ⟨x, Fi, Fr, h1, ⟨ws, o, rfl, rfl, ha, r⟩, q, put, _⟩ := rs.lens e
  have := put Z' (fun _ h => h) (.p (.dct kvs)) [] ⟨⟨a, ws, rfl, s.zs a z, .inr ⟨o, ha⟩, r⟩, rfl⟩
  exact this.perm q.symm
end
/-- what leaves a def holds still when a dict is set free -/
def RxU (rx : RX) : Prop := ∀ e ds cls d H Z a od ws, H a = some (.frz od (.dK ws)) → rx e ds cls d H Z → rx e ds cls d (upd H a (.dK ws)) Z
section
variable {X : Cx} {rx : RX} {c : Am.Ctx} {W : WX} {sg : List Bool} {m : MS} {me : ME} {p : Pl}
theorem s_lock {st : Stmt} (tk : Takes X W) (ru : RxU rx) (hW : ∀ W', Takes X W' → PS X st (tS X.K rx c W' sg m)) : PS X st (tS X.K rx c W sg (.lock p m)) := by
  refine ⟨fun pins s σ H D I0 ⟨α, Z, F, N, X', I, w⟩ => ?_⟩
  have w : (match getP p α with
    | some (.od kvs) => ∀ tok, wpS c m (setP p α (some (.ld tok kvs))) ⟨fun β => getP p β = some (.ld tok kvs) ∧ noLd (setP p β none) ∧ N.nx (setP p β (some (.od kvs))), fun v β => getP p β = some (.ld tok kvs) ∧ noLd (setP p β none) ∧ nlV v ∧ N.rt v (setP p β (some (.od kvs)))⟩
        fun e ds β => getP p β = some (.ld tok kvs) ∧ noLd (setP p β none) ∧ X' e ds (setP p β (some (.od kvs)))
    | some (.ld _ _) => wpS c m α N X'
    | some (.p (.dct kvs)) => ∀ tok, wpS c m (setP p α (some (.ld tok kvs))) ⟨fun β => getP p β = some (.ld tok kvs) ∧ noLd (setP p β none) ∧ N.nx (setP p β (some (.p (.dct kvs)))), fun v β => getP p β = some (.ld tok kvs) ∧ noLd (setP p β none) ∧ nlV v ∧ N.rt v (setP p β (some (.p (.dct kvs))))⟩
        fun e ds β => getP p β = some (.ld tok kvs) ∧ noLd (setP p β none) ∧ X' e ds (setP p β (some (.p (.dct kvs))))
    | _ => False) := w
  -- what leaves the statement, the dict held fast
  have take : ∀ (a : Addr) (ws : List (L2.Key × V)), H a = some (.dK ws) → Takes X fun cls d σ H1 => W cls d σ H1 ∨ ∃ od, H1 a = some (.frz od (.dK ws)) ∧ W cls d σ (upd H1 a (.dK ws)) := fun a ws ha u s' ⟨b, B, sI, pins, σ, H1, cls, d, e, I1, nb, up, sky, na, os, ag, hw⟩ => by
    rcases hw with hw | ⟨od, hf, hw⟩
    · exact tk u s' ⟨b, B, sI, pins, σ, H1, cls, d, e, I1, nb, up, sky, na, os, ag, hw⟩
    · exact tk u s' ⟨b, B, sI, pins, σ, _, cls, d, e, I1.unlock hf (I0.nofrz ha trivial), nb, up, sky, by rw [upd_ne fun q => by rw [q, hf] at na; cases na]; exact na, os, ag, hw⟩
  cases e : getP p α with
  | none => rw [e] at w; exact w.elim
  | some v =>
    rw [e] at w
    cases v with
    | od kvs =>
      obtain ⟨a, ws, ha, haF, hz, hσ, lk⟩ := lock_core I.rs I.g e
      refine (ps_lock (hW _ (take a ws ha))).run pins s σ H D I0 ⟨a, .dK ws, ha, trivial, fun od => ?_⟩
      obtain ⟨F1, hn1, hF1, rs1, g1⟩ := lk od
      refine ⟨_, Z, F1, _, _, ⟨rs1, g1, fun α' hN H' Z' F' σ' s' g' sm rs' => ?_, fun v α' hR H' Z' F' Fr x σ' s' g' sm rs' ra => ?_, fun e ds α' hX H' Z' F' σ' cls d s' g' sm rs' hr => ?_⟩, w a⟩
      · obtain ⟨q1, q2, q3⟩ := hN
        obtain ⟨u1, u2, F2, u3, u4, u5⟩ := unlock_core (Fx := []) I.g ha haF hz hF1 hn1 (by rw [List.append_nil]; exact s') (by rw [List.append_nil]; exact g') rs' q1 q2
        rw [List.append_nil] at u4 u5
        exact ⟨u1, I.hN _ q3 _ _ _ _ u5 u4 sm u3⟩
      · obtain ⟨q1, q2, q3, q4⟩ := hR
        obtain ⟨u1, u2, F2, u3, u4, u5⟩ := unlock_core I.g ha haF hz hF1 hn1 s' g' rs' q1 q2
        exact ⟨u1, I.hR _ _ q4 _ _ _ _ _ _ u5 u4 sm u3 (ra.unl u1 u2 q3)⟩
      · obtain ⟨q1, q2, q3⟩ := hX
        obtain ⟨u1, u2, F2, u3, u4, u5⟩ := unlock_core (Fx := []) I.g ha haF hz hF1 hn1 (by rw [List.append_nil]; exact s') (by rw [List.append_nil]; exact g') rs' q1 q2
        rw [List.append_nil] at u4 u5
        exact .inr ⟨od, u1, I.hX _ _ _ q3 _ _ _ _ _ _ u5 u4 sm u3 (ru _ _ _ _ _ _ _ _ _ u1 hr)⟩
    | ld a kvs => exact (hW W tk).run pins s σ H D I0 ⟨α, Z, F, N, X', I, w⟩
    | p d =>
      cases d with
      | dct kvs =>
        obtain ⟨a, ws, hσ, hz, hr, rk⟩ := dct_slot I.rs e
        rcases hr with ha | ⟨o, ha⟩
        · refine (ps_lock (hW _ (take a ws ha))).run pins s σ H D I0 ⟨a, .dK ws, ha, trivial, fun od => ?_⟩
          obtain ⟨rs1, g1⟩ := lockZ (od := od) I.rs I.g e hσ hz ha rk
          refine ⟨_, Z, F, _, _, ⟨rs1, g1, fun α' hN H' Z' F' σ' s' g' sm rs' => ?_, fun v α' hR H' Z' F' Fr x σ' s' g' sm rs' ra => ?_, fun e ds α' hX H' Z' F' σ' cls d s' g' sm rs' hr => ?_⟩, w a⟩
          · obtain ⟨q1, q2, q3⟩ := hN
            obtain ⟨u1, _, F2, u3, u4, u5⟩ := unlockZ (Fx := []) I.g hz ha (by rw [List.append_nil]; exact s') (by rw [List.append_nil]; exact g') rs' q1 q2
            rw [List.append_nil] at u4 u5
            exact ⟨u1, I.hN _ q3 _ _ _ _ u5 u4 sm u3⟩
          · obtain ⟨q1, q2, q3, q4⟩ := hR
            obtain ⟨u1, u2, F2, u3, u4, u5⟩ := unlockZ I.g hz ha s' g' rs' q1 q2
            exact ⟨u1, I.hR _ _ q4 _ _ _ _ _ _ u5 u4 sm u3 (ra.lk (Lk.free u1) (fun b hb => upd_ne fun q => u2 (List.mem_append_right _ (by rw [← q]; exact hb))) (.inl q3))⟩
          · obtain ⟨q1, q2, q3⟩ := hX
            obtain ⟨u1, _, F2, u3, u4, u5⟩ := unlockZ (Fx := []) I.g hz ha (by rw [List.append_nil]; exact s') (by rw [List.append_nil]; exact g') rs' q1 q2
            rw [List.append_nil] at u4 u5
            exact .inr ⟨od, u1, I.hX _ _ _ q3 _ _ _ _ _ _ u5 u4 sm u3 (ru _ _ _ _ _ _ _ _ _ u1 hr)⟩
        · refine (hW W tk).run pins s σ H D I0 ⟨_, Z, F, _, _, ⟨I.rs.swap (w := .ld a kvs) e hσ (fun Fi h => h.2) ⟨ws, o, rfl, rfl, ha, rk⟩, I.g, fun α' hN H' Z' F' σ' s' g' sm rs' => ?_, fun v α' hR H' Z' F' Fr x σ' s' g' sm rs' ra => ?_, fun e ds α' hX H' Z' F' σ' cls d s' g' sm rs' hr => ?_⟩, w a⟩
          · obtain ⟨q1, q2, q3⟩ := hN
            exact I.hN _ q3 _ _ _ _ s' g' sm (backZ (Fx := []) hz (by rw [List.append_nil]; exact s') rs' q1)
          · obtain ⟨q1, q2, q3, q4⟩ := hR
            exact I.hR _ _ q4 _ _ _ _ _ _ s' g' sm (backZ hz s' rs' q1) ra
          · obtain ⟨q1, q2, q3⟩ := hX
            exact I.hX _ _ _ q3 _ _ _ _ _ _ s' g' sm (backZ (Fx := []) hz (by rw [List.append_nil]; exact s') rs' q1) hr
      | _ => exact w.elim
    | ol _ => exact w.elim
    | ll _ _ => exact w.elim
    | oi _ _ => exact w.elim
theorem s_lockE {e : Expr} (h : PE X e (tE X.K rx c W me)) : PE X e (tE X.K rx c W (.lockE p me)) := by
  refine ⟨fun pins s σ H Q I0 hw => ?_⟩
  obtain ⟨α, Z, F, P, X', I, w⟩ := tE.el hw
  have w : (match getP p α with
    | some (.od kvs) => ∀ tok, wpE c me (setP p α (some (.ld tok kvs))) (fun v β => getP p β = some (.ld tok kvs) ∧ noLd (setP p β none) ∧ nlV v ∧ frc (setP p β (some (.od kvs))) (P v)) (fun _ _ _ => False)
    | some (.ld _ _) => wpE c me α P X'
    | some (.p (.dct kvs)) => ∀ tok, wpE c me (setP p α (some (.ld tok kvs))) (fun v β => getP p β = some (.ld tok kvs) ∧ noLd (setP p β none) ∧ nlV v ∧ frc (setP p β (some (.p (.dct kvs)))) (P v)) (fun _ _ _ => False)
    | _ => False) := w
  cases e : getP p α with
  | none => rw [e] at w; exact w.elim
  | some v =>
    rw [e] at w
    cases v with
    | od kvs =>
      obtain ⟨a, ws, ha, haF, hz, hσ, lk⟩ := lock_core I.rs I.g e
      refine (pe_lock h).run pins s σ H Q I0 ⟨a, .dK ws, ha, trivial, fun od => ?_⟩
      obtain ⟨F1, hn1, hF1, rs1, g1⟩ := lk od
      refine ⟨_, Z, F1, _, _, rs1, g1, w a, fun v α' hP H' Z' F' x Fr s' g' rs' ra => ?_, fun _ _ _ hX => hX.elim⟩
      obtain ⟨q1, q2, q3, q4⟩ := hP
      rw [frc_eq] at q4
      obtain ⟨u1, u2, F2, u3, u4, u5⟩ := unlock_core I.g ha haF hz hF1 hn1 s' g' rs' q1 q2
      exact ⟨u1, I.hP _ _ q4 _ _ _ _ _ u5 u4 u3 (ra.unl u1 u2 q3)⟩
    | ld a kvs => exact h.run pins s σ H Q I0 (tE.of I w)
    | p d =>
      cases d with
      | dct kvs =>
        obtain ⟨a, ws, hσ, hz, hr, rk⟩ := dct_slot I.rs e
        rcases hr with ha | ⟨o, ha⟩
        · refine (pe_lock h).run pins s σ H Q I0 ⟨a, .dK ws, ha, trivial, fun od => ?_⟩
          obtain ⟨rs1, g1⟩ := lockZ (od := od) I.rs I.g e hσ hz ha rk
          refine ⟨_, Z, F, _, _, rs1, g1, w a, fun v α' hP H' Z' F' x Fr s' g' rs' ra => ?_, fun _ _ _ hX => hX.elim⟩
          obtain ⟨q1, q2, q3, q4⟩ := hP
          rw [frc_eq] at q4
          obtain ⟨u1, u2, F2, u3, u4, u5⟩ := unlockZ I.g hz ha s' g' rs' q1 q2
          exact ⟨u1, I.hP _ _ q4 _ _ _ _ _ u5 u4 u3 (ra.lk (Lk.free u1) (fun b hb => upd_ne fun q => u2 (List.mem_append_right _ (by rw [← q]; exact hb))) (.inl q3))⟩
        · refine h.run pins s σ H Q I0 ⟨_, Z, F, _, _, I.rs.swap (w := .ld a kvs) e hσ (fun Fi h => h.2) ⟨ws, o, rfl, rfl, ha, rk⟩, I.g, w a, fun v α' hP H' Z' F' x Fr s' g' rs' ra => ?_, fun _ _ _ hX => hX.elim⟩
          obtain ⟨q1, q2, q3, q4⟩ := hP
          rw [frc_eq] at q4
          exact I.hP _ _ q4 _ _ _ _ _ s' g' (backZ hz s' rs' q1) ra
      | _ => exact w.elim
    | ol _ => exact w.elim
    | ll _ _ => exact w.elim
    | oi _ _ => exact w.elim
end
theorem keysD_len : ∀ kvs : List (Am.Key × D), (keysD kvs).length = kvs.length
  | [] => rfl
  | (_, _) :: r => congrArg (· + 1) (keysD_len r)
theorem itemsD_len : ∀ kvs : List (Am.Key × D), (itemsD kvs).length = kvs.length
  | [] => rfl
  | (_, _) :: r => congrArg (· + 1) (itemsD_len r)
theorem rd_kD {K : PySem.W.Frag} {H : Hp} {Z : ZP} : ∀ (k : Am.Key), RD K H Z (kD k) (kV (kK k))
  | .inl _ => rfl
  | .inr _ => rfl
theorem RK.at {K : PySem.W.Frag} {H : Hp} {Z : ZP} : ∀ {kvs : List (Am.Key × D)} {ws : List (L2.Key × V)} {i : Nat} {kv : L2.Key × V}, RK K H Z kvs ws → ws[i]? = some kv →
    ∃ d : Am.Key × D, (keysD kvs)[i]? = some (kD d.1) ∧ (itemsD kvs)[i]? = some (.tup [kD d.1, d.2]) ∧ RD K H Z (kD d.1) (kV kv.1) ∧ RD K H Z d.2 kv.2
  | [], _, i, _, h, e => by cases h; simp at e
  | (k, d) :: r, _, 0, _, ⟨x, q, e1, h1, h2⟩, e => by
    rw [e1] at e
    cases e
    exact ⟨(k, d), rfl, rfl, rd_kD k, h1⟩
  | (k, d) :: r, _, i + 1, _, ⟨x, q, e1, h1, h2⟩, e => by
    rw [e1] at e
    exact RK.at (i := i) h2 e
section
variable {K : PySem.W.Frag} {H : Hp} {Z : ZP} {t : ME} {ts : MEs} {a : Addr} {o : Obj} {kvs : List (Am.Key × D)} {ws : List (L2.Key × V)}
theorem drw_keys (ha : H a = some (.frz o (.dK ws))) (r : RK K H Z kvs ws) : Drw K (Itk a o ws) t (keysD kvs) H Z :=
  ⟨fun i hi => by
    rw [keysD_len, r.len] at hi
    refine ⟨⟨ha, hi⟩, fun x H' hy => ?_⟩
    obtain ⟨rfl, k, v, e, rfl⟩ := hy
    obtain ⟨d, e1, _, h1, _⟩ := r.at e
    exact ⟨_, e1, .refl, .inl h1⟩, fun i hi => by rw [keysD_len, r.len] at hi; exact ⟨ha, hi⟩⟩
theorem drw_items (zt : Zt H Z) (ha : H a = some (.frz o (.dK ws))) (r : RK K H Z kvs ws) : Drw K (Iti a o ws) (.tup ts) (itemsD kvs) H Z :=
  ⟨fun i hi => by
    rw [itemsD_len, r.len] at hi
    refine ⟨⟨ha, hi⟩, fun x H' hy => ?_⟩
    obtain ⟨T, k, v, e, rfl, hT, rfl⟩ := hy
    obtain ⟨d, _, e1, h1, h2⟩ := r.at e
    obtain ⟨n1, n2⟩ := ry_pair (ts := ts) hT zt h1 h2
    exact ⟨_, e1, n1, n2⟩, fun i hi => by rw [itemsD_len, r.len] at hi; exact ⟨ha, hi⟩⟩
end
section
variable {X : Cx} {rx : RX} {c : Am.Ctx} {W : WX} {sg : List Bool} {tg e : Expr} {t : ME} {ts : MEs} {p : Pl} {es : List Expr} {kk : Nat} {pos tpos apos cpos : Pos}
theorem si_keys (he : PE X e (tO X.K rx c W (.pl p))) : PI X tg e (tI X.K rx c W t (.keys p)) := PI.weak (pi_keys he) fun σ H R ⟨α, Z, F, k, X', rs, g, w, hX, cont⟩ => by
  have w : (match getP p α with
    | some (.ld tok kvs) => k (keysD kvs) (fun β => getP p β = some (.ld tok kvs)) (fun β => β) α
    | _ => False) := w
  cases e : getP p α with
  | none => rw [e] at w; exact w.elim
  | some v =>
    rw [e] at w
    cases v with
    | ld a kvs =>
      obtain ⟨x, Fi, Fr, h1, ⟨ws, o, rfl, rfl, ha, r⟩, _, _⟩ := rs.lens e
      refine tPl_of h1.rd ⟨a, o, rfl, .inl ⟨ws, ha, cont _ _ _ _ w H Z F _ .refl g rs fun H' Z' α' σ' F' s g' rs' hg => ⟨rs', ?_⟩⟩⟩
      have naF : a ∉ F := fun h => by
        have := g.ow a h
        rw [ha] at this
        exact this
      obtain ⟨y, _, _, h2, ⟨ws', o', ey, _, ha', r'⟩, _⟩ := rs'.lens hg
      rw [s.fr a _ ha naF] at ha'
      cases ha'
      exact drw_keys (s.fr a _ ha naF) r'
    | _ => exact w.elim
theorem si_items (he : PE X e (tO X.K rx c W (.pl p))) (hbase : attributeBase e "items" X.env (eval e X.env) = eval e X.env := by rfl) (hline : (apos.endLine == cpos.line) = true := by rfl) :
    PI X (.Tuple es kk tpos) (.Call (.Attribute e "items" apos) [] [] cpos) (tI X.K rx c W (.tup ts) (.items p)) := PI.weak (pi_items he hbase hline) fun σ H R ⟨α, Z, F, k, X', rs, g, w, hX, cont⟩ => by
  have w : (match getP p α with
    | some (.ld tok kvs) => k (itemsD kvs) (fun β => getP p β = some (.ld tok kvs)) (fun β => β) α
    | _ => False) := w
  cases e : getP p α with
  | none => rw [e] at w; exact w.elim
  | some v =>
    rw [e] at w
    cases v with
    | ld a kvs =>
      obtain ⟨x, Fi, Fr, h1, ⟨ws, o, rfl, rfl, ha, r⟩, _, _⟩ := rs.lens e
      refine tPl_of h1.rd ⟨a, o, ws, rfl, ha, cont _ _ _ _ w H Z F _ .refl g rs fun H' Z' α' σ' F' s g' rs' hg => ⟨rs', ?_⟩⟩
      have naF : a ∉ F := fun h => by
        have := g.ow a h
        rw [ha] at this
        exact this
      obtain ⟨y, _, _, h2, ⟨ws', o', ey, _, ha', r'⟩, _⟩ := rs'.lens hg
      rw [s.fr a _ ha naF] at ha'
      cases ha'
      exact drw_items g'.zt (s.fr a _ ha naF) r'
    | _ => exact w.elim
/-- a dict that is had for itself stands fast from now on -/
def tGh (te : TE) : TE := fun σ H Q => te σ H fun x H1 => ∃ a ws, x = .ref a ∧ H1 a = some (.dK ws) ∧ ∀ od, Q (.ref a) (upd H1 a (.frz od (.dK ws)))
theorem pe_gh {te : TE} (h : PE X e te) : PE X e (tGh te) := by
  refine ⟨fun pins s σ H Q I hw => ?_⟩
  refine thn (h.run pins s σ H _ I hw) fun v s1 ⟨x, H1, I1, r, a, ws, ex, ha, q⟩ => ?_
  subst ex
  obtain ⟨od, I2⟩ := I1.lock ha trivial
  exact ⟨.ref a, _, I2, r, q od⟩
theorem si_itemsE {m : ME} (he : PE X e (tE X.K rx c W m)) (hbase : attributeBase e "items" X.env (eval e X.env) = eval e X.env := by rfl) (hline : (apos.endLine == cpos.line) = true := by rfl) :
    PI X (.Tuple es kk tpos) (.Call (.Attribute e "items" apos) [] [] cpos) (tI X.K rx c W (.tup ts) (.itemsE m)) := PI.weak (pi_items (pe_gh he) hbase hline) fun σ H R ⟨α, Z, F, k, X', rs, g, w, hX, cont⟩ => by
  refine ⟨α, Z, F, _, X', rs, g, w, fun v α1 w1 H1 Z1 F1 x Fx s1 g1 rs1 r1 => ?_, hX⟩
  cases v with
  | od kvs =>
    obtain ⟨a, ws, rfl, rfl, ha, r⟩ := r1
    refine ⟨a, ws, rfl, ha, fun od => ⟨a, od, ws, rfl, upd_same, ?_⟩⟩
    have gl : G3 H1 Z1 [a] := g1.right
    have st : Step H1 Z1 [a] (upd H1 a (.frz od (.dK ws))) Z1 [] := ⟨fun b o hb hn => by rw [upd_ne (by simpa using hn)]; exact hb, fun b hb => absurd hb (by simp), fun _ z => z, fun _ z => .inl z, fun b hb => by
      by_cases z : b = a
      · rw [z, upd_same]; simp
      · rw [upd_ne z]; exact hb⟩
    have naF : a ∉ F1 := fun h => g1.dis a (by simp) h
    have gR : G3 H1 Z1 ([a] ++ F1) := g1.perm List.perm_append_comm
    have rs2 : RS X.K (upd H1 a (.frz od (.dK ws))) Z1 α1 σ F1 := rs1.frame gl st fun b hb q => naF (by rw [List.mem_singleton.mp q] at hb; exact hb)
    have g2 : G3 (upd H1 a (.frz od (.dK ws))) Z1 F1 := ⟨gR.right.nd, gR.right.nz, fun b hb => by
      rw [upd_ne fun q => naF (by rw [← q]; exact hb)]; exact gR.right.ow b hb, fun b hb => by
      by_cases q : b = a
      · rw [q, upd_same]; simp
      · rw [upd_ne q]; exact g1.zt b hb⟩
    have s2 : Step H Z F (upd H1 a (.frz od (.dK ws))) Z1 F1 := by
      have := st.beside gR
      exact (s1.trans (this.permL List.perm_append_comm))
    have kp : Keep H1 Z1 (upd H1 a (.frz od (.dK ws))) Z1 := st.keep gl
    refine cont _ _ _ _ w1 _ Z1 F1 _ s2 g2 rs2 fun H' Z' α' σ' F' s g' rs' hg => ⟨rs', ?_⟩
    have hk := s.fr a _ upd_same naF
    exact drw_items g'.zt hk (RK.keep (s.keep g2) kvs (RK.keep kp kvs r))
  | _ => exact w1.elim
end
end Am

set_option maxHeartbeats 4000000
namespace Am
open PySem PySem.Spec PyProof.Rows L2
variable [CN]
section
variable {X : Cx} {rx : RX} {c : Am.Ctx} {W : WX} {a b : Expr} {ma mb : ME} {p p2 pos pos2 : Pos}
theorem rd_ints {K : PySem.W.Frag} {H : Hp} {Z : ZP} (f : Nat → Int) : ∀ l : List Nat, RDs K H Z (l.map fun i => .int (f i)) (l.map fun i => V.int (f i))
  | [] => rfl
  | _ :: r => ⟨_, _, rfl, rfl, rd_ints f r⟩
theorem rd_rg {K : PySem.W.Frag} {H : Hp} {Z : ZP} {i j : Int} : RDs K H Z (rangeD i j) (rgV i j) := rd_ints (fun k => i + (k : Nat)) _
theorem s_lrg1 (hc : X.calm = true) (hl : X.mg "list" = none) (hm : X.mg "range" = none) (ha : PE X a (tO X.K rx c W ma)) (h1 : okO ma = true := by rfl) (hgl : Gl X "list" := by rfl) (hg : Gl X "range" := by rfl)
    (na : starEach [a] X.env = (false, eval a X.env) :: starEach [] X.env := by rfl) (na2 : starEach [.Call (.Name "range" p2) [a] [] pos2] X.env = (false, eval (.Call (.Name "range" p2) [a] [] pos2) X.env) :: starEach [] X.env := by rfl) :
    PE X (.Call (.Name "list" p) [.Call (.Name "range" p2) [a] [] pos2] [] pos) (tE X.K rx c W (.bi .lrange (.cons (.cst (.int 0)) (.cons ma .nil)))) := PE.weak (pe_listRg hc hgl hl (prg_1 hg hm ha na) na2) fun σ H Q h => by
  obtain ⟨α, Z, F, P, X', I, w⟩ := tE.el h
  have w : pre ma (fun α k => wpE c ma α k X') α fun v α1 => Am.fetch ma v α1 fun y => onI y fun j => (-(2 ^ 62) ≤ (0 : Int) ∧ (0 : Int) < 2 ^ 62 ∧ -(2 ^ 62) ≤ j ∧ j < 2 ^ 62 ∧ (j - 0).toNat ≤ 2 ^ 24) ∧ P (.ol (rangeD 0 j)) α1 := w
  refine I.opd h1 w fun v α1 H1 Z1 F1 x Fx w1 I1 s1 g1 o1 => ?_
  obtain ⟨u, G, r1, w2⟩ := o1.fetch I1.rs w1
  obtain ⟨i, rfl, b, w3⟩ := onI.el w2
  exact ⟨i, ra_int r1, b, fun q hq => I1.res.lst I1.g.zt w3 rd_rg hq⟩
end
end Am

namespace Am
open PySem PySem.W PySem.F L2
variable [CN]
section
variable {K : PySem.W.Frag} {H H' : Hp} {Z Z' : ZP} {X : Cx} {c : Am.Ctx}
def pr2 (p : Int × Int) : PyData := .tuple [.int p.1, .int p.2]
theorem pairs2_py : ∀ {xs : List D} {ps : List (Int × Int)}, pairs2? xs = some ps → toPys xs = ps.map pr2 ∧ xs = ps.map (fun p => D.tup [.int p.1, .int p.2])
  | [], ps, h => by cases h; exact ⟨rfl, rfl⟩
  | d :: r, ps, h => by
    unfold pairs2? at h
    split at h
    · rename_i e
      cases e
    · rename_i i j r' e
      cases e
      obtain ⟨qs, e1, rfl⟩ := Option.map_eq_some_iff.mp h
      obtain ⟨h1, h2⟩ := pairs2_py e1
      refine ⟨?_, ?_⟩
      · simp only [toPys, toPy, h1, List.map_cons, pr2]
      · rw [h2]; rfl
    · cases h
theorem min_pr2 : ∀ (p : Int × Int) (ps : List (Int × Int)), ∃ q, minD (pr2 p) (ps.map pr2) = pr2 q ∧ q ∈ p :: ps ∧ ∀ r ∈ p :: ps, le2 q r
  | p, [] => ⟨p, rfl, List.mem_cons_self, fun r hr => by rw [List.mem_singleton.mp hr]; exact .inr ⟨rfl, Int.le_refl _⟩⟩
  | p, x :: ps => by
    have e : minD (pr2 p) ((x :: ps).map pr2) = minD (if dataLt (pr2 x) (pr2 p) then pr2 x else pr2 p) (ps.map pr2) := rfl
    rw [e, show dataLt (pr2 x) (pr2 p) = decide (x.1 < p.1 ∨ (x.1 = p.1 ∧ x.2 < p.2)) from dataLt_ii _ _ _ _]
    by_cases h : x.1 < p.1 ∨ (x.1 = p.1 ∧ x.2 < p.2)
    · rw [if_pos (decide_eq_true h)]
      obtain ⟨q, e1, e2, e3⟩ := min_pr2 x ps
      refine ⟨q, e1, List.mem_cons_of_mem _ e2, fun r hr => ?_⟩
      rcases List.mem_cons.mp hr with rfl | hr
      · have := e3 x List.mem_cons_self
        unfold le2 at this ⊢
        omega
      · exact e3 r hr
    · rw [if_neg (by simpa using h)]
      obtain ⟨q, e1, e2, e3⟩ := min_pr2 p ps
      refine ⟨q, e1, ?_, fun r hr => ?_⟩
      · rcases List.mem_cons.mp e2 with rfl | e2
        · exact List.mem_cons_self
        · exact List.mem_cons_of_mem _ (List.mem_cons_of_mem _ e2)
      · rcases List.mem_cons.mp hr with rfl | hr
        · exact e3 r List.mem_cons_self
        · rcases List.mem_cons.mp hr with rfl | hr
          · have := e3 p List.mem_cons_self
            unfold le2 at this ⊢
            omega
          · exact e3 r (List.mem_cons_of_mem _ hr)
theorem alike_pr2 (ps : List (Int × Int)) : AlikeAll (ps.map pr2) := ⟨fun x hx y hy => by
  obtain ⟨p, _, rfl⟩ := List.mem_map.mp hx
  obtain ⟨q, _, rfl⟩ := List.mem_map.mp hy
  rfl, fun x hx => by
  obtain ⟨p, _, rfl⟩ := List.mem_map.mp hx
  intro h
  cases h⟩
theorem cr_minp (hc : X.calm = true) (hu : X.A.units + 190 < cLine) : CallR X (.builtin "min") (rBi X.K c .minp) := fun pins s σ H xs us Q I r ⟨Z, vs, k, zt, rl, w, res⟩ => by
  match vs, w, rl with
  | [v], w, rl =>
    obtain ⟨ds, e, w⟩ := onO.el w
    obtain ⟨ps, en, hl, w⟩ := onO.el w
    obtain ⟨x, F, rfl, ra⟩ := rl.one'
    obtain ⟨a, ws, rfl, h1, h2⟩ := ra.list e
    obtain ⟨e1, e2⟩ := pairs2_py en
    obtain ⟨its, rv, hls, _⟩ := I.list h1
    rw [Vals.ref1 r]
    have dp : depL ds ≤ 1 := by
      rw [e2]
      clear e1 e2 en hl w
      induction ps with
      | nil => exact Nat.zero_le _
      | cons p ps ih =>
        show max 1 (depL _) ≤ 1
        omega
    obtain ⟨as, hr⟩ := RDs.reads I ds h2 rv (by omega)
    have pp := toPys_plain ds (by omega)
    cases ps with
    | nil => simp at hl
    | cons p ps =>
      rw [e1] at hr pp
      refine min_list_data (I.ok.hd hc) hls.isList hr (alike_pr2 (p :: ps)) (by have := pp.2; show X.A.units + 1 + PyData.depthAll (List.map pr2 (p :: ps)) < cLine; omega) fun i v h' tk bs hv hv2 hk => ?_
      obtain ⟨q, m1, m2, m3⟩ := min_pr2 p ps
      rw [m1] at hv2
      have hi : i < its.length := by
        obtain ⟨hi, _⟩ := Array.getElem?_eq_some_iff.mp hv
        simpa using hi
      have hids : i < ds.length := by rw [h2.len, rv.length]; exact hi
      have ed : ds[i]? = some ds[i] := List.getElem?_eq_getElem hids
      obtain ⟨y, ey, ry⟩ := h2.at ed
      obtain ⟨v', ev, rel⟩ := rv.get ey
      have : v' = v := by
        have : its[i]? = some v := by simpa using hv
        rw [ev] at this
        exact Option.some.inj this
      subst this
      have hp : ∃ r ∈ p :: ps, ds[i] = .tup [.int r.1, .int r.2] := by
        have all : ∀ z ∈ ds, z ∈ List.map (fun p => D.tup [D.int p.fst, D.int p.snd]) (p :: ps) := fun z hz => by rw [← e2]; exact hz
        obtain ⟨r, hr, e⟩ := List.mem_map.mp (all _ (List.getElem_mem hids))
        exact ⟨r, hr, by rw [← e]⟩
      obtain ⟨r, hr2, er⟩ := hp
      rw [er] at ry
      obtain ⟨as2, rd⟩ := RD.reads I _ ry rel (by show 1 ≤ 180; omega)
      have e5 : PyData.tuple [.int r.1, .int r.2] = pr2 q := (PySem.Reads.unique (reads_keeps hk rd) _ _ hv2).1
      have : r = q := by
        unfold pr2 at e5
        injection e5 with e5
        injection e5 with e6 e7
        injection e7 with e7
        injection e6 with e6
        injection e7 with e7
        exact Prod.ext e6 e7
      subst this
      exact ⟨y, H, I.kept hk, rel, res.d (w r hr2 m3) ry⟩
end
end Am

namespace L2
open PySem PySem.Spec PyProof.Rows
section
variable {X : Cx} {pins : List (Addr × Obj)} {σ : St} {H : Hp} {s : Shared}
/-- an object that is new since the entry, not noted so far, is noted as it stands -/
theorem Inv.note {a : Addr} {oe : Obj} (I : Inv X pins σ H s) (ha : s.heap.get? a = some oe) (na : H a = none) (n0 : X.s_0.heap.get? a = none) (nL : a ≠ X.env.locals) (nd : ∀ v, oe.data ≠ .cell v)
    (np : ∀ p ∈ X.pn ++ pins, p.1 ≠ a) : Inv X pins σ (upd H a (Am.EO a oe)) s := by
  have ne : ∀ {b : Addr} {o : HO}, H b = some o → b ≠ a := fun {b o} e z => by rw [z, na] at e; cases e
  have ne0 : ∀ {b : Addr} {o : Obj}, X.s_0.heap.get? b = some o → b ≠ a := fun {b o} e z => by rw [z, n0] at e; cases e
  have nc : ∀ x c, X.env.cells.lookup x = some c → c ≠ a := fun x c e z => by
    obtain ⟨v, o, ho, hd⟩ := I.cell x c e
    rw [z, ha] at ho
    cases ho
    exact nd v hd
  refine ⟨I.ok, I.os, I.bare, ⟨I.base.keep, I.base.slot, fun b o e n hx => ?_, I.base.there, fun b xs e => ?_, fun b o u e => ?_, fun b ps e => ?_⟩, I.loc, I.cell, ?_, fun x c e => ?_, fun p hp => ?_, fun b ob e => ?_, I.len⟩
  · rw [upd_ne (ne0 e)]
    exact I.base.free b o e n hx
  · have q := I.base.tups b xs e
    rw [upd_ne (ne q)]
    exact q
  · have q := I.base.frzs b o u e
    rw [upd_ne (ne q)]
    exact q
  · obtain ⟨m, q⟩ := I.base.tbls b ps e
    exact ⟨m, by rw [upd_ne (ne q)]; exact q⟩
  · rw [upd_ne (Ne.symm nL)]
    exact I.free
  · rw [upd_ne (nc x c e)]
    exact I.freeC x c e
  · obtain ⟨h1, h2, h3⟩ := I.pin p hp
    exact ⟨h1, by rw [upd_ne (np p hp)]; exact h2, h3⟩
  · by_cases hb : b = a
    · subst hb
      rw [upd_same] at e
      cases e
      exact ⟨ha, ⟨oe, ha⟩, fun h1 h2 q k => k oe q⟩
    · rw [upd_ne hb] at e
      exact (I.hok b ob e).stay (fun _ _ _ q => q) (fun c q => by rw [upd_ne (ne q)]; exact q) fun c xs q => by rw [upd_ne (ne q)]; exact q
end
/-- what 'except x as n: y = n' wishes: slot i is n's, slot j is y's -/
def wKeep (K : PySem.W.Frag) (c : Value) (i j : Nat) (Wout : WX) (D : Ends) : WX := fun cls d σ H =>
  ∃ b, PySem.W.exmOne K cls c = some b ∧ (b = true → ∀ (a : Addr) (oe : Obj), H a = none → Zc cls d oe → (∃ vs, oe.data = .fields vs) → D.nx (((σ.set i (some (.ref a))).set j (some (.ref a))).set i none) (upd H a (Am.EO a oe))) ∧ (b = false → Wout cls d σ H)
section
variable {X : Cx} {x n y : Str} {c : Value} {i j : Nat} {body : List Stmt} {np np2 yp ap pos pos' : Pos} {tb : WX → TS} {Wout : WX}
theorem ps_try_keep (hs : X.stack = X.env :: X.outer) (hf : X.env.frame = some X.env.locals) (hex : X.ex = []) (hN : X.N.Nodup) (hi : X.N[i]? = some n) (hln : X.env.kindOf n = some .local) (hj : X.N[j]? = some y) (hly : X.env.kindOf y = some .local) (hij : i ≠ j)
    (hdn : (n == ("__debug__" : Str)) = false) (hcn : (n == ("__classdict__" : Str)) = false) (hc : Names X x c) (tk : Takes X Wout)
    (hb : ∀ (W : WX) (pn : List (Addr × Obj)) (xe : Value → Shared → Prop), Takes (X.tr pn xe) W → PassesOwn (model X.prog X.w) X.A X.env xe → PSs (X.tr pn xe) body (tb W))
    (hsw : swapsWith (.Name n np2) (some (.Name y yp)) ap.line X.env = pure false := by rfl) :
    PS X (.Try body [.ExceptHandler (some (.Name x np)) (some n) [.Assign [.Name y yp] (.Name n np2) ap] pos'] [] [] pos) (fun D σ H => tb (wKeep X.K c i j Wout D) D σ H) := by
  have suite : ∀ (a : Addr) (oe : Obj) (pn : List (Addr × Obj)), PSs (X.suite a ((a, oe) :: pn)) [.Assign [.Name y yp] (.Name n np2) ap] _ := fun a oe pn =>
    pss_one (ps_set (X := X.suite a ((a, oe) :: pn)) (i := j) hN hj (.inl hly) (pe_var (X := X.suite a ((a, oe) :: pn)) (i := i) hi (.inl hln) hdn hcn) hsw (.inr hly))
  refine ⟨fun pins s σ H D I h => ?_⟩
  have ok := I.ok
  have hfr : X.A.frames = some (X.env :: X.outer) := by rw [ok.frames, hs]
  refine wpAny_Try_except (wpAny_mono ((hb (wKeep X.K c i j Wout D) (X.pn ++ pins) _ (fun u s' xx => ?_) PassesOwn.looking).run [] s σ H D (I.toTry _) h) (fun f s1 hsp => ?_) (fun e s1 he => he))
  · obtain ⟨a, B, sI, pins', σ', H', cls, d, rfl, J', nb, up, sky, na, os, ag, b, hb1, hyes, hno⟩ := xx
    have J : Inv X pins σ' H' sI := J'.ofTry ok
    rw [show (X.tr (X.pn ++ pins) _).stack = X.env :: X.outer from hs] at sky
    -- the exception's object is none of those that stood
    have aB : B.get? a = none := by
      rcases sky with z | z | z
      · exact z.2.1
      · exact z.2.1
      · exact z.2.1
    show wpAny (model X.prog X.w) X.A (noteFrame (.ref a) X.env) _ _ _
    refine Sky.land Zc.steady hfr hf sky fun h3 fl3 up3 => ?_
    have J3 : Inv X pins σ' H' { s' with heap := h3 } := J.landed nb fl3.1 (up.trans up3) os ag
    obtain ⟨oe3, vs3, he3, hz3, hd3⟩ := fl3.there
    have nfr : a ∉ frs (X.env :: X.outer) := fun hm => by
      obtain ⟨_, o', e', hnf⟩ := fl3.2.2.1.mem hm
      rw [he3] at e'
      cases e'
      exact hnf _ hd3
    have nfr' : a ∉ frs X.stack := by rw [hs]; exact nfr
    have nL : a ≠ X.env.locals := fun z => nfr (List.mem_filterMap.mpr ⟨X.env, List.mem_cons_self, by rw [hf, z]⟩)
    have nF : a ∉ X.fs := fun hm => by
      obtain ⟨e, he, q⟩ := List.mem_filterMap.mp hm
      exact nfr (List.mem_filterMap.mpr ⟨e, List.mem_cons_of_mem _ he, q⟩)
    have nI : sI.heap.get? a = none := by
      cases e : sI.heap.get? a with
      | none => rfl
      | some o =>
        have := nb a o e nfr'
        rw [aB] at this
        cases this
    have n0 : X.s_0.heap.get? a = none := by
      cases e : X.s_0.heap.get? a with
      | none => rfl
      | some o =>
        obtain ⟨o', e'⟩ := J.base.there a o e (by rw [hex]; exact fun z => nomatch z)
        rw [nI] at e'
        cases e'
    have npin : ∀ p ∈ X.pn ++ pins, p.1 ≠ a := fun p hp z => by
      have := (J.pin p hp).1
      rw [z, nI] at this
      cases this
    have S3 := J3.suite he3 hd3 na nL nF
    refine wpAny_handleBy_cons (codeAny_handlers_test ?_) (by intro q; cases q)
    have LT : PySem.W.Looks (model X.prog X.w) h3 (typeOf (.ref a)) cls := fun A Q E s k q => wpAny_typeOf_ref (k _ _ he3) (by rw [hz3.1]; exact q)
    have LM := PySem.W.exm_one (M := model X.prog X.w) (J3.kIn) LT hb1
    have test : ∀ {Q : Value → Shared → Prop} {E : Value → Shared → Prop}, Q c { s' with heap := h3 } → wpAny (model X.prog X.w) (X.A.mark (some (.ref a))) (eval (.Name x np) X.env) Q E { s' with heap := h3 } := fun {Q E} q => by
      obtain ⟨hg, hdbg, hm | ⟨hm, hv, hnn⟩⟩ := hc
      · exact ld_glob (X := X.suite a ((a, oe3) :: (X.pn ++ pins))) S3 hg hm q hdbg
      · exact ld_blt (X := X.suite a ((a, oe3) :: (X.pn ++ pins))) S3 hg hm hv q hnn hdbg
    refine test (LM.here ?_)
    cases b with
    | true =>
      refine codeAny_handlers_suite_as (HandSPX.lands_againZ fl3 fun h4 fl4 up4 => ?_)
      have J4 : Inv X pins σ' H' { s' with heap := h4 } := J.landed nb fl4.1 ((up.trans up3).trans up4) os ag
      obtain ⟨oe4, vs4, he4, hz4, hd4⟩ := fl4.there
      have S4 := J4.suite he4 hd4 na nL nF
      have il : i < σ'.length := by rw [J4.len]; exact (List.getElem?_eq_some_iff.mp hi).1
      refine store_ok (X := X.suite a ((a, oe4) :: (X.pn ++ pins))) (v := .ref a) S4 hN hi (.inl hln) rfl (fun s5 S5 => ?_) (.inr hln)
      refine wpAny_mono ((suite a oe4 (X.pn ++ pins)).run [] s5 _ H' ⟨fun σ6 H6 => σ6 = (σ'.set i (some (.ref a))).set j (some (.ref a)) ∧ H6 = H', fun _ _ => False, fun _ _ => False, fun _ _ => False⟩ S5
        ⟨.ref a, List.getElem?_set_self il, rfl, rfl⟩) (fun f s6 hsp => ?_) (fun _ _ z => False.elim z)
      cases f with
      | next =>
        obtain ⟨σ6, H6, S6, rfl, rfl⟩ := hsp
        have he6 := (S6.pin (a, oe4) (List.mem_append_left _ List.mem_cons_self)).1
        have J6 := (S6.unsuite ok).note he6 na n0 nL (fun v z => by rw [hd4] at z; cases z) npin
        exact gone_ok J6 hN hi hln fun s7 J7 => ⟨_, _, J7, hyes rfl a oe4 na hz4 ⟨_, hd4⟩⟩
      | brk => obtain ⟨_, _, _, z⟩ := hsp; exact z.elim
      | cont => obtain ⟨_, _, _, z⟩ := hsp; exact z.elim
      | ret u => obtain ⟨_, _, _, _, _, z⟩ := hsp; exact z.elim
    | false =>
      show wpAny _ X.A (handleBy (.ref a) X.env []) _ _ _
      refine wpAny_handleBy_nil ?_
      obtain ⟨k1, k2, k3, oe, vs, T, oT, ts', he, hz, hd, h1, hr⟩ := id fl3
      unfold PySem.passOn
      refine wpAny_bind (wpAny_field he hd h1 ?_)
      rw [if_neg (show ¬ ((Value.ref T == Value.none) = true) from by simp)]
      have fin : wpAny (model X.prog X.w) X.A (setFlight (.ref a) X.env.frame) (fun _ s4 => wpAny (model X.prog X.w) X.A (throw (.ref a) : Sem Flow) (SP X pins D) X.xe s4) X.xe { s' with heap := h3 } := by
        rw [hf]
        refine HandSPX.setFlight_upZ fl3 fun h4 hh4 up4 => wpAny_throw (tk _ _ ?_)
        exact ⟨a, B, sI, pins, σ', H', cls, d, rfl, J, nb, (up.trans up3).trans up4, .inr (.inr (by rw [hs]; exact hh4)), na, os, ag, hno rfl⟩
      first
        | exact wpAny_bind (wpAny_pure (wpAny_bind fin))
        | exact wpAny_bind fin
  · cases f with
    | next =>
      obtain ⟨σ', H', J', q⟩ := hsp
      exact wpAny_execs_nil ⟨σ', H', J'.ofTry ok, q⟩
    | brk =>
      obtain ⟨σ', H', J', q⟩ := hsp
      exact ⟨σ', H', J'.ofTry ok, q⟩
    | cont =>
      obtain ⟨σ', H', J', q⟩ := hsp
      exact ⟨σ', H', J'.ofTry ok, q⟩
    | ret u =>
      obtain ⟨v, σ', H', J', r, q⟩ := hsp
      exact ⟨v, σ', H', J'.ofTry ok, r, q⟩
end
end L2

set_option maxHeartbeats 4000000
namespace Am
open PySem PySem.Spec PyProof.Rows L2
/-- is class e one of class k: 0 is the base of all, 6 is ValueError -/
@[reducible] def subE (e k : Nat) : Bool := match k with
  | 0 => true
  | 6 => true
  | k => Nat.beq e k
variable [CN]
/-- how an exception lies -/
abbrev rxC (K : PySem.W.Frag) : RX := fun e ds cls d H Z => e < 6 ∧ cls = .ref (CN.adr e) ∧ ∃ ys, XF (CN.fld e) d H ys ∧ RDs K H Z ds ys
/-- a class by its number -/
def clV (k : Nat) : Value := if k = 6 then .type "ValueError" else .ref (CN.adr k)
def clW (k : Nat) : V := if k = 6 then .ty "ValueError" else .ref (CN.adr k)
theorem clV_rel (k : Nat) : RelV (clW k) (clV k) := by
  unfold clW clV
  split <;> rfl
theorem clV_cls (k : Nat) : ClsV (clW k) (clV k) := by
  unfold clW clV
  split
  · exact .ty _
  · exact .own _
/-- what the written part says of the classes -/
structure EK (K : PySem.W.Frag) : Prop where
  cl : ∀ e < 6, (PySem.W.clsIn K (CN.adr e)).isSome = true
  ga : ∀ e < 6, PySem.W.findIn K (.ref (CN.adr e)) "__getattribute__" = some (some (.builtin "BaseException.__getattribute__"))
  gg : ∀ e < 6, PySem.W.findIn K (.ref (CN.adr e)) "__getattr__" = some none
  ex : ∀ e < 6, PySem.W.subIn K (.ref (CN.adr e)) (.type "BaseException") = some true
  ty : ∀ e < 6, PySem.W.typeIn K (.ref (CN.adr e)) = some (.type "type")
  hd : ∀ e < 6, PySem.W.hasDictIn K (CN.adr e) = true
  cc : ∀ e < 6, PySem.W.findIn K (.ref (CN.adr e)) "__class__" = some (some (.builtin "object.__class__"))
  ob : ∀ e < 6, PySem.W.mroIn K (CN.adr e) (.type "object") = some true
  fl : ∀ e < 6, PySem.W.findIn K (.ref (CN.adr e)) (CN.fld e) = some none
  kp : ∀ e < 6, PySem.W.keepIn K (.ref (CN.adr e)) = true
  hn : PySem.W.specialIn K (.builtin "object.__class__") "__get__" = some (some (.builtin "getset_descriptor.__get__"))
  ht : PySem.W.takesIn K (.builtin "object.__class__") = some true
  su : ∀ e < 6, ∀ k < 7, PySem.W.kitOne K (.ref (CN.adr e)) (clV k) = some (CN.sub e k)
  no : ∀ k < 7, PySem.W.kitOne K (.type "NoneType") (clV k) = some false
  em : ∀ e < 6, ∀ k < 6, PySem.W.exmOne K (.ref (CN.adr e)) (.ref (CN.adr k)) = some (CN.sub e k)
theorem kitAny_of {K : PySem.W.Frag} {t : Value} {f : Nat → Bool} : ∀ {ks : List Nat}, (∀ k ∈ ks, PySem.W.kitOne K t (clV k) = some (f k)) → PySem.W.kitAny K t (ks.map clV) = some (ks.any f)
  | [], _ => rfl
  | k :: r, h => by
    show (match PySem.W.kitOne K t (clV k) with
    | some true => some true
    | some false => PySem.W.kitAny K t (r.map clV)
    | none => none) = some (f k || r.any f)
    rw [h k List.mem_cons_self]
    cases f k with
    | true => rfl
    | false => exact kitAny_of fun j hj => h j (List.mem_cons_of_mem _ hj)
section
variable {K : PySem.W.Frag} {H : Hp} {Z : ZP} {X : Cx} {c : Am.Ctx} {W : WX}
/-- None, or an exception: its class -/
def ExN (K : PySem.W.Frag) (H : Hp) (Z : ZP) (x : V) (t : Value) : Prop := (x = .non ∧ t = .type "NoneType") ∨ (∃ (e : Nat) (ds : List D), RD K H Z (.exc e ds) x ∧ t = .ref (CN.adr e)) ∨ ∃ (e : Nat) (s : T), TxE H e s x ∧ t = .ref (CN.adr e)
theorem eo_at {h : Heap} {P : Program} {w : World} {a : Addr} {oe : Obj} (hok : HOk P w H h) (e : H a = some (EO a oe)) : h.get? a = some oe := (hok a _ e).1
theorem inst_ex {pins : List (Addr × Obj)} {σ : L2.St} {s : Shared} (I : Inv X pins σ H s) {e : Nat} {a : Addr} {oe : Obj} {ys : List V} (ha : H a = some (EO a oe)) (hc : oe.cls = .ref (CN.adr e)) (hd : ∃ vs, oe.data = .fields vs) (hf : XF (CN.fld e) oe.dict H ys) :
    ∃ od, PySem.W.InstAt s.heap a oe (CN.adr e) od ∧ match ys with
      | [y] => ∃ o u, od = some o ∧ PySem.W.lookIn (CN.fld e) o = some (some u) ∧ RelV y u
      | _ => True := by
  have hx := eo_at I.hok ha
  obtain ⟨vs, hd⟩ := hd
  have nc : PySem.W.notCls oe = true := by unfold PySem.W.notCls; rw [hd] <;> rfl
  match ys, hf with
  | [], hf => exact ⟨none, ⟨hx, hc, nc, by rw [hf]; trivial⟩, trivial⟩
  | [y], ⟨dd, fs, e1, e2, e3⟩ =>
    obtain ⟨mA, hns, hr⟩ := (show ObjOk X.prog X.w H s.heap dd (.xd fs) from I.hok dd _ e2)
    obtain ⟨od, ho, hl⟩ := lookIn_ns hns
    obtain ⟨u, hu, ru⟩ := RelO.some_of (v := y) (o := mA (CN.fld e)) (by rw [← e3]; exact hr _)
    exact ⟨some od, ⟨hx, hc, nc, by rw [e1]; exact ho⟩, od, u, rfl, by rw [hl, hu], ru⟩
theorem kit_ex {pins : List (Addr × Obj)} {σ : L2.St} {s : Shared} (E : EK X.K) (I : Inv X pins σ H s) {x : V} {u t : Value} (rx : RelV x u) (h : ExN X.K H Z x t) : ∃ P : Heap → Prop, PySem.W.KitX X.K u t P ∧ P s.heap ∧ u ≠ .builtin "__main__.__loader__#opaque" := by
  rcases h with ⟨rfl, rfl⟩ | ⟨e, ds, ⟨he, a, oe, ys, rfl, ha, hc, hd, hf, _⟩, rfl⟩ | ⟨e, tx, ⟨he, a, t, oe, ot, tk, n, rfl, ha, ht, hc, hdn, ⟨vs, hd, _⟩, _⟩, rfl⟩
  · cases (show u = Value.none from rx)
    exact ⟨_, PySem.W.kitx_none, True.intro, fun z => nomatch z⟩
  · cases (show u = Value.ref a from rx)
    obtain ⟨od, J, _⟩ := inst_ex I ha hc hd hf
    exact ⟨_, PySem.W.kitx_exc (E.cl e he) (E.ga e he) (E.gg e he) (E.ex e he) (E.cc e he) E.hn E.ht (E.ob e he), J, fun z => nomatch z⟩
  · cases (show u = Value.ref a from rx)
    obtain ⟨od, J, _⟩ := inst_ex (ys := []) I ha hc ⟨vs, hd⟩ hdn
    exact ⟨_, PySem.W.kitx_exc (E.cl e he) (E.ga e he) (E.gg e he) (E.ex e he) (E.cc e he) E.hn E.ht (E.ob e he), J, fun z => nomatch z⟩
/-- isinstance(x, c), isinstance(x, (c, ..)) -/
theorem call_isE {t : Value} {b : Bool} (E : EK X.K) : CallR X (.builtin "isinstance") (fun xs H Q => ∃ (x : V) (k : Nat) (t : Value) (b : Bool) (Z : ZP), xs = [x, clW k] ∧ ExN X.K H Z x t ∧ PySem.W.kitOne X.K t (clV k) = some b ∧ Q (.bl b) H) := by
  intro pins s σ H xs us Q I r h
  obtain ⟨x, k, t, b, Z, rfl, ty, e, q⟩ := h
  obtain ⟨u1, u2, rfl, r1, r2⟩ := vals2 r
  have e2 := (clV_cls k).eq r2
  subst e2
  obtain ⟨P, Z, p, hx⟩ := kit_ex E I r1 ty
  exact PySem.W.kia_one Z I.kIn p e hx fun tk => ⟨.bl b, H, I.tok tk, rfl, q⟩
theorem cls_all : ∀ {ks : List Nat} {ws : List Value}, Vals (ks.map clW) ws → ws = ks.map clV
  | [], _, .nil => rfl
  | k :: r, _, .cons h1 h2 => by
    rw [(clV_cls k).eq h1, cls_all (ks := r) h2]
    rfl
theorem call_isET (E : EK X.K) : CallR X (.builtin "isinstance") (fun xs H Q => ∃ (x : V) (tp : Addr) (ks : List Nat) (t : Value) (b : Bool) (Z : ZP), xs = [x, .ref tp] ∧ H tp = some (.tup (ks.map clW)) ∧ ExN X.K H Z x t ∧ PySem.W.kitAny X.K t (ks.map clV) = some b ∧ Q (.bl b) H) := by
  intro pins s σ H xs us Q I r h
  obtain ⟨x, tp, ks, t, b, Z, rfl, hT, ty, e, q⟩ := h
  obtain ⟨u1, u2, rfl, r1, r2⟩ := vals2 r
  cases (show u2 = Value.ref tp from r2)
  obtain ⟨P, Z, p, hx⟩ := kit_ex E I r1 ty
  obtain ⟨_, its, rv, o, h1, h2, n, h3⟩ := (show ObjOk X.prog X.w H s.heap tp (.tup (ks.map clW)) from I.hok tp _ hT)
  have e3 := cls_all rv
  subst e3
  obtain ⟨oc, od, dt, sl⟩ := o
  simp only at h2 h3
  subst h2 h3
  exact PySem.W.kia_tup Z I.kIn p h1 e hx fun tk => ⟨.bl b, H, I.tok tk, rfl, q⟩
end
end Am

set_option maxHeartbeats 4000000
namespace L2
open PySem PySem.Spec PyProof.Rows
section
variable {X : Cx} {o e : Expr} {es : List Expr} {ta : TA} {b : Str} {p1 p2 pos : Pos} {B : Addr}
/-- B.__init__(self, ..), B a class of the program's own under ValueError without an __init__ of its own -/
theorem pe_hinit {mc : Value} {pl : Sem Bool} (hg : Gl X b) (hm : X.mg b = some (.ref B)) (hr : PySem.W.readsIn X.K B mc = true) (hsp : PySem.W.specialIn X.K (.ref B) "__getattribute__" = some (some (.builtin "type.__getattribute__")))
    (hv : PySem.W.findCls X.K (.ref B) mc "__init__" = some (.val (.builtin "ValueError.__init__"))) (ha : PA X (e :: es) ta)
    (hdb : (b == ("__debug__" : Str)) = false := by decide)
    (hc : eval (.Call (.Attribute (.Name b p1) "__init__" p2) (e :: es) [] pos) X.env = (do
      let ov ← eval (.Name b p1) X.env
      standAt p2.atName
      let (f, first) ← holding [ov] (getMethod ov "__init__" pl)
      callWith pos f first (backTo pos (starEach (e :: es) X.env)) (backToKw pos (keywordEach [] X.env))) := by rfl)
    (he : starEach (e :: es) X.env = (false, eval e X.env) :: starEach es X.env := by rfl) (hpl : (backTo pos (starEach es X.env)).any (·.1) = false := by rfl) :
    PE X (.Call (.Attribute (.Name b p1) "__init__" p2) (e :: es) [] pos) (tVeI X.K ta) := by
  refine ⟨fun pins s σ H Q I h => ?_⟩
  refine PySem.W.methodCall_KW (ld_glob I hg hm ?_ hdb) hc
  refine PySem.W.method_cls I.kIn hsp (PySem.W.cls_value I.kIn hr hv rfl ?_)
  show wpAny _ _ (callWith pos (Value.builtin "ValueError.__init__") [] (backTo pos (starEach (e :: es) X.env)) []) _ _ _
  refine PyProof.Rows.callWith_method1 (thn (ha.run pos pins _ σ H _ (I.tok _) h) fun us s1 ⟨vs, H1, I1, r1, a, C, ws, ev, hl, T, ea, q⟩ => ?_) he hpl
  subst ev
  cases r1 with
  | @cons _ u0 _ ur ra rw' =>
    obtain rfl : u0 = Value.ref a := ra
    have hlen : ur.length ≤ sizeLine := by
      rw [← Paired.length rw', sizeLine_eq]
      omega
    exact oinit_ok T I1 ea hlen fun s' J => ⟨.non, H1, J, rfl, q⟩
end
/-- what such an __init__ keeps: it tells a text of its argument, and stores the argument -/
def spI (K : PySem.W.Frag) (C : Addr) (f : Str) (ok : V → Hp → Prop) : Sp := fun vs H Q E => ∃ (a : Addr) (v : V), vs = [.ref a, v] ∧ ok v H ∧ H a = some (exo a C none) ∧ ∀ d, H d = none → d ≠ a → Q .non (upd (upd H d (exd d [(f, v)])) a (exo a C (some d)))
section
variable {P : Program} {w : World} {K : PySem.W.Frag} {mg : Str → Option Value} {base : Heap}
theorem init_ok {qual : Str} {st : Stmt} {fi C : Addr} {fd : FuncData} {p f : Str} {ok : V → Hp → Prop} {te : TE} (F : Fun K "__init__" qual st fi fd) (S : FnScope [("self" : Str), p] [("self" : Str), p] (defScope st)) (T : OexC K C) (hno : PySem.W.findIn K (.ref C) f = some none)
    (hmsg : ∀ (σ : St) (H : Hp) (Q : VK) (v : V), σ[1]? = some (some v) → ok v H → (∀ z, Q (.str z) H) → te σ H Q)
    (hbody : ∀ (cdv : Value) (A : Around) (outer : List Env) (s : Shared) (H : Hp) (E : XK), Room 0 (A.deeper (envOfC qual (defScope st) s.heap.objs.size fi cdv)) →
      PSs (cxOf (L2.CX P w) P w K mg base [("self" : Str), p] qual (defScope st) fi cdv A outer s H E) (defBody st) (tSeq (tDrop (tVeI K (tCons (tVar 0) (tCons te tNil)))) (tOst K f (tVar 0) (tVar 1)))) :
    FnOk P w K mg base (L2.CX P w) 1 fi fd ["self", p] (spI K C f ok) := by
  refine F.okX S (fun vs H Q E h => ?_) (fun cdv A outer s H vs Q E hr h => ⟨_, hbody cdv A outer s H E hr, ?_⟩)
  · obtain ⟨a, v, rfl, _⟩ := h
    rfl
  · obtain ⟨a, v, rfl, hv, ha, q⟩ := h
    refine ⟨.ref a, rfl, hmsg _ _ _ v rfl hv fun z => ?_⟩
    refine ⟨a, C, [.str z], rfl, (by show 1 ≤ 1000; decide), T, ha, ?_⟩
    exact ⟨v, rfl, .ref a, rfl, a, C, rfl, T, hno, .inl ⟨ha, fun d hd hne => q d hd hne⟩⟩
end
section
variable {X : Cx} {e : Expr} {x f : Str} {C fI : Addr} {k : Nat} {fd : FuncData} {p : Str} {ok : V → Hp → Prop} {ta : TA} {p1 pos : Pos}
/-- C(e): the exception has a field -/
theorem pmk_fld (T : OexC X.K C) (iC : PySem.W.findIn X.K (.ref C) "__init__" = some (some (.ref fI))) (tI : PySem.W.typeIn X.K (.ref fI) = some (.type "function")) (F1 : FnOk X.prog X.w X.K X.mg X.base (L2.CX X.prog X.w) k fI fd ["self", p] (spI X.K C f ok)) (hr : Room (k + 1) X.A)
    (hb : Binds X.K fd ["self", p] []) (hx : Passes (L2.CX X.prog X.w) X (fun _ _ _ => False)) (hg : Gl X x) (hm : X.mg x = some (.ref C)) (ha : PA X [e] ta) (hdb : (x == ("__debug__" : Str)) = false := by decide)
    (he : starEach (e :: []) X.env = (false, eval e X.env) :: starEach [] X.env := by rfl) (hpl : (backTo pos (starEach [] X.env)).any (·.1) = false := by rfl) :
    PMk X (.Call (.Name x p1) [e] [] pos) (fun σ H Q => ta σ H fun vs H1 => ∃ v, vs = [v] ∧ (∀ a, H1 a = none → ok v (upd H1 a (exo a C none))) ∧ ∀ d, H1 d = none → Q (.ref C) (some d) (upd H1 d (.xd [(f, v)]))) := by
  have key : ∀ (H1 : Hp) (Q : XK) (vs : List V), (∃ v, vs = [v] ∧ (∀ a, H1 a = none → ok v (upd H1 a (exo a C none))) ∧ ∀ d, H1 d = none → Q (.ref C) (some d) (upd H1 d (.xd [(f, v)]))) → vs.length ≤ 1000 ∧ ∀ a, H1 a = none → spI X.K C f ok (.ref a :: (vs ++ [])) (upd H1 a (exo a C none))
      (fun v H2 => v = .non ∧ ∃ (d : Addr) (fs : List (Str × V)), H2 a = some (exo a C (some d)) ∧ H2 d = some (exd d fs) ∧ H1 d = none ∧ Q (.ref C) (some d) (upd (del H2 a) d (.xd fs))) (fun _ _ _ => False) := fun H1 Q vs ⟨v, ev, hv, q⟩ => by
    subst ev
    refine ⟨(by show 1 ≤ 1000; decide), fun a na => ⟨a, v, rfl, hv a na, upd_same, fun d hd hne => ⟨rfl, d, [(f, v)], upd_same, ?_, ?_, ?_⟩⟩⟩
    · rw [upd_ne hne, upd_same]
    · rw [upd_ne hne] at hd
      exact hd
    · rw [upd_ne hne] at hd
      have e : upd (del (upd (upd (upd H1 a (exo a C none)) d (exd d [(f, v)])) a (exo a C (some d))) a) d (.xd [(f, v)]) = upd H1 d (.xd [(f, v)]) := by
        funext b
        by_cases h1 : b = d
        · subst h1
          rw [upd_same, upd_same]
        · rw [upd_ne h1, upd_ne h1]
          by_cases h2 : b = a
          · subst h2
            rw [del_same, na]
          · rw [del_ne h2, upd_ne h2, upd_ne h1, upd_ne h2]
      rw [e]
      exact q d hd
  intro pins s σ H Q I h
  refine pmk_oex (p := p1) (pos := pos) (ta := fun σ H R => ∃ K : List V → Hp → Prop, (∀ vs H1, K vs H1 → R vs H1) ∧ ta σ H K) T iC tI F1 hr hb .nil hx hg hm ⟨fun pos pins s σ H Q I ⟨K, hK, h⟩ => ?_⟩ hdb he hpl pins s σ H Q I ⟨_, fun vs H1 => key H1 Q vs, h⟩
  exact wpAny_mono (ha.run pos pins s σ H _ I h) (fun us s1 ⟨vs, H1, I1, r1, q⟩ => ⟨vs, H1, I1, r1, hK _ _ q⟩) fun _ _ z => z
end
end L2

set_option maxHeartbeats 4000000
namespace Am
open PySem PySem.Spec PyProof.Rows L2
variable [CN]
section
variable {K : PySem.W.Frag} {H H' H1 : Hp} {Z Z' : ZP} {F Fr : List Addr} {α : Sl} {σ : L2.St}
omit [CN] in
theorem anyK_any (f : Nat → Bool) : ∀ l : List Nat, anyK f l = l.any f
  | [] => rfl
  | d :: r => by
    show (match f d with | true => true | false => anyK f r) = (f d || r.any f)
    rw [anyK_any f r]
    cases f d <;> rfl
omit [CN] in
theorem setS_com : ∀ (α : Sl) {i j : Nat} (a b : Option AV), i ≠ j → setS (setS α i a) j b = setS (setS α j b) i a
  | [], _, _, _, _, _ => rfl
  | _ :: _, 0, 0, _, _, h => absurd rfl h
  | _ :: _, 0, _ + 1, _, _, _ => rfl
  | _ :: _, _ + 1, 0, _, _, _ => rfl
  | x :: r, i + 1, j + 1, a, b, h => congrArg (x :: ·) (setS_com r a b fun e => h (congrArg Nat.succ e))
end
section
variable {X : Cx} {c : Am.Ctx} {W : WX} {sg : List Bool} {a b d e : Expr} {st : Stmt} {rest body : List Stmt} {es : List Expr} {pos pos' p p2 : Pos} {m ma : ME} {ms : MEs} {s : MS} {ss : MSs} {k L : Nat}
/-- try: body / except x as n: y = n -/
theorem s_try {x n y : Str} {np np2 yp ap : Pos} {L : Nat} (B : Bd X L W) (E : EK X.K) (cn i j : Nat) (hcn : cn < 6) (hm : X.mg x = some (.ref (CN.adr cn))) (hsub : ∀ e, c.sub e cn = CN.sub e cn)
    (hb : ∀ (W' : WX) (pn : List (Addr × Obj)) (xe : Value → Shared → Prop), Takes (X.tr pn xe) W' → PassesOwn (model X.prog X.w) X.A X.env xe → PSs (X.tr pn xe) body (tSs X.K (rxC X.K) c W' sg ss))
    (hs : X.stack = X.env :: X.outer := by rfl) (hf : X.env.frame = some X.env.locals := by rfl) (hex : X.ex = [] := by rfl) (hi : X.N[i]? = some n := by rfl) (hln : X.env.kindOf n = some .local := by rfl) (hj : X.N[j]? = some y := by rfl) (hly : X.env.kindOf y = some .local := by rfl)
    (hij : i ≠ j := by decide) (hgi : getL sg i = some true := by rfl) (hgj : getL sg j = some true := by rfl) (hg : Gl X x := by rfl) (hdx : (x == ("__debug__" : Str)) = false := by decide) (hdn : (n == ("__debug__" : Str)) = false := by decide) (hcd : (n == ("__classdict__" : Str)) = false := by decide)
    (hsw : swapsWith (.Name n np2) (some (.Name y yp)) ap.line X.env = pure false := by rfl) :
    PS X (.Try body [.ExceptHandler (some (.Name x np)) (some n) [.Assign [.Name y yp] (.Name n np2) ap] pos'] [] [] pos) (tS X.K (rxC X.K) c W sg (.tryA ss cn j i)) :=
  PS.weak (ps_try_keep (i := i) (j := j) (tb := fun W' => tSs X.K (rxC X.K) c W' sg ss) (Wout := W) hs hf hex B.nd hi hln hj hly hij hdn hcd ⟨hg, hdx, .inl hm⟩ B.tk hb hsw) fun D σ H ⟨α, Z, F, N, X', I, w⟩ => by
    refine ⟨α, Z, F, N, _, ⟨I.rs, I.g, I.hN, I.hR, fun e ds α1 hx H' Z' F' σ' cls d t g' sm rs hr => ?_⟩, w⟩
    obtain ⟨he, rfl, ys, hxf, hys⟩ := hr
    refine ⟨CN.sub e cn, E.em e he cn hcn, fun hb a oe na hz hd => ?_, fun hb => ?_⟩
    · rw [hsub, hb] at hx
      have hx : N.nx (setS (setS α1 j (some (.p (.exc e ds)))) i none) := hx
      have nw : New H' Z' (upd H' a (EO a oe)) Z' [] := .dat na
      have rs1 := rs.new nw g'.zt
      have st := (nw F' g').1
      have g1 := (nw F' g').2
      rw [List.append_nil] at st g1
      have rd : RD X.K (upd H' a (EO a oe)) Z' (.exc e ds) (.ref a) := by
        refine ⟨he, a, oe, ys, rfl, upd_same, hz.1, hd, ?_, RDs.keep (nw.keep g'.zt) ds hys⟩
        rw [hz.2]
        exact (nw.keep g'.zt).xf hxf
      obtain ⟨F2, r2, rs2, p2⟩ := rs1.putN (i := i) (y := some (.ref a))
      obtain ⟨F3, r3, rs3, p3⟩ := rs2.putV (i := j) (v := .p (.exc e ds)) ⟨rd, rfl⟩
      obtain ⟨F4, r4, rs4, p4⟩ := rs3.putN (i := i) (y := none)
      have pp : F'.Perm (F4 ++ (r4 ++ r3 ++ r2)) := by
        rw [List.append_nil] at p3
        refine p2.trans ?_
        refine (List.Perm.append_right r2 (p3.trans (List.Perm.append_right r3 p4))).trans ?_
        simp [List.append_assoc]
      have es : setS (setS (setS α1 i none) j (some (.p (.exc e ds)))) i none = setS (setS α1 j (some (.p (.exc e ds)))) i none := by
        rw [setS_com α1 none (some (.p (.exc e ds))) hij, setS_setS]
      rw [es] at rs4
      refine I.hN _ hx _ Z' F4 _ ((t.trans (st.permR pp)).lessR fun _ h => List.mem_append_left _ h) (g1.perm pp).left ?_ rs4
      exact ((sm.trans (.set hgi)).trans (.set hgj)).trans (.set hgi)
    · rw [hsub, hb] at hx
      exact I.hX e ds α1 hx H' Z' F' σ' _ d t g' sm rs ⟨he, rfl, ys, hxf, hys⟩
/-- isinstance(e, C), C one of the classes -/
theorem s_isE {x : Str} {ce : Expr} (E : EK X.K) (n : Nat) (hn : n < 7) (hsub : ∀ e d, c.sub e d = CN.sub e d) (ha : PE X e (tO X.K (rxC X.K) c W ma)) (hce : PE X ce (tC (clW n))) (hm : X.mg "isinstance" = none) (hx : x = "isinstance" := by rfl) (hg : Gl X "isinstance" := by rfl) (h1 : okO ma = true := by rfl)
    (he : starEach [e, ce] X.env = (false, eval e X.env) :: starEach [ce] X.env := by rfl) (hs2 : starEach [ce] X.env = (false, eval ce X.env) :: starEach [] X.env := by rfl) (hpl : (backTo pos (starEach [ce] X.env)).any (·.1) = false := by rfl) :
    PE X (.Call (.Name x p) [e, ce] [] pos) (tE X.K (rxC X.K) c W (.bi (.isinst [] [n]) (.cons ma .nil))) := by
  subst hx
  refine PE.weak (pe_callB (call_isE (t := .none) (b := true) E) hg hm (by rfl) (pa_cons ha (pa_cons hce pa_nil hs2) he) (by decide) (by decide) he hpl) fun σ H Q h => ?_
  obtain ⟨α, Z, F, P, X', I, w⟩ := tE.el h
  have w : pre ma (fun α k => wpE c ma α k X') α fun v α1 => Am.fetch ma v α1 fun y => biQ c (.isinst [] [n]) [y] fun v => P v α1 := w
  refine I.opd h1 w fun v α1 H1 Z1 F1 x Fx w1 I1 s1 g1 o1 => ?_
  obtain ⟨v', G, r1, w2⟩ := o1.fetch I1.rs w1
  cases v' with
  | p d =>
    cases d with
    | exc e ds =>
      have w2 : P (.p (.bl (anyK (c.sub e) [n]))) α1 := w2
      rw [anyK_any, show [n].any (c.sub e) = c.sub e n by simp, hsub] at w2
      exact ⟨x, n, _, _, Z1, rfl, .inr (.inl ⟨e, ds, r1.1, rfl⟩), E.su e r1.1.1 n hn, I1.now w2 rfl⟩
    | exs e tx =>
      have w2 : P (.p (.bl (anyK (c.sub e) [n]))) α1 := w2
      rw [anyK_any, show [n].any (c.sub e) = c.sub e n by simp, hsub] at w2
      exact ⟨x, n, _, _, Z1, rfl, .inr (.inr ⟨e, tx, r1.1, rfl⟩), E.su e r1.1.1 n hn, I1.now w2 rfl⟩
    | non =>
      have w2 : P (.p (.bl false)) α1 := w2
      exact ⟨x, n, _, _, Z1, rfl, .inl ⟨r1.1, rfl⟩, E.no n hn, I1.now w2 rfl⟩
    | _ => exact (show False from w2).elim
  | _ => exact (show False from w2).elim
/-- the classes of a tuple -/
def tKs : List Nat → TA
  | [] => tNil
  | k :: r => tCons (tC (clW k)) (tKs r)
theorem tKs_run {σ : L2.St} {H : Hp} : ∀ {ks : List Nat} {R : List V → Hp → Prop}, R (ks.map clW) H → tKs ks σ H R
  | [], _, h => h
  | k :: r, R, h => tKs_run (ks := r) (R := fun vs H' => R (clW k :: vs) H') h
/-- isinstance(e, (C, ..)) -/
theorem s_isET {x : Str} {kk : Nat} (E : EK X.K) (ns : List Nat) (hn : ns.all (fun n => Nat.blt n 7) = true) (hlen : ns.length ≤ 1000) (hsub : ∀ e d, c.sub e d = CN.sub e d) (ha : PE X e (tO X.K (rxC X.K) c W ma)) (hce : PA X es (tKs ns)) (hm : X.mg "isinstance" = none) (hx : x = "isinstance" := by rfl) (hg : Gl X "isinstance" := by rfl) (h1 : okO ma = true := by rfl)
    (he : starEach [e, .Tuple es kk p2] X.env = (false, eval e X.env) :: starEach [.Tuple es kk p2] X.env := by rfl) (hs2 : starEach [.Tuple es kk p2] X.env = (false, eval (.Tuple es kk p2) X.env) :: starEach [] X.env := by rfl) (hpl : (backTo pos (starEach [.Tuple es kk p2] X.env)).any (·.1) = false := by rfl) :
    PE X (.Call (.Name x p) [e, .Tuple es kk p2] [] pos) (tE X.K (rxC X.K) c W (.bi (.isinst [] ns) (.cons ma .nil))) := by
  subst hx
  have hn' : ∀ n ∈ ns, n < 7 := fun n h => by
    have := List.all_eq_true.mp hn n h
    exact Nat.le_of_ble_eq_true this
  refine PE.weak (pe_callB (call_isET E) hg hm (by rfl) (pa_cons ha (pa_cons (pe_tup hce) pa_nil hs2) he) (by decide) (by decide) he hpl) fun σ H Q h => ?_
  obtain ⟨α, Z, F, P, X', I, w⟩ := tE.el h
  have w : pre ma (fun α k => wpE c ma α k X') α fun v α1 => Am.fetch ma v α1 fun y => biQ c (.isinst [] ns) [y] fun v => P v α1 := w
  refine I.opd h1 w fun v α1 H1 Z1 F1 x Fx w1 I1 s1 g1 o1 => ?_
  obtain ⟨v', G, r1, w2⟩ := o1.fetch I1.rs w1
  refine tKs_run ⟨by rw [List.length_map]; exact Nat.le_trans hlen (by decide), fun tp htp => ?_⟩
  have nw : New H1 Z1 (upd H1 tp (.tup (ns.map clW))) Z1 [] := .dat htp
  cases v' with
  | p d =>
    cases d with
    | exc e ds =>
      have w2 : P (.p (.bl (anyK (c.sub e) ns))) α1 := w2
      rw [anyK_any] at w2
      have rd := RD.keep (nw.keep I1.g.zt) (.exc e ds) r1.1
      refine ⟨x, tp, ns, _, _, Z1, rfl, upd_same, .inr (.inl ⟨e, ds, rd, rfl⟩), kitAny_of fun n h => E.su e r1.1.1 n (hn' n h), ?_⟩
      have e1 : ns.any (c.sub e) = ns.any (CN.sub e) := by
        congr 1
        funext d
        exact hsub e d
      rw [e1] at w2
      exact I1.res _ w2 _ Z1 _ [] nw ⟨rfl, rfl⟩
    | exs e tx =>
      have w2 : P (.p (.bl (anyK (c.sub e) ns))) α1 := w2
      rw [anyK_any] at w2
      have rd := RD.keep (nw.keep I1.g.zt) (.exs e tx) r1.1
      refine ⟨x, tp, ns, _, _, Z1, rfl, upd_same, .inr (.inr ⟨e, tx, rd, rfl⟩), kitAny_of fun n h => E.su e r1.1.1 n (hn' n h), ?_⟩
      have e1 : ns.any (c.sub e) = ns.any (CN.sub e) := by
        congr 1
        funext d
        exact hsub e d
      rw [e1] at w2
      exact I1.res _ w2 _ Z1 _ [] nw ⟨rfl, rfl⟩
    | non =>
      have w2 : P (.p (.bl false)) α1 := w2
      refine ⟨x, tp, ns, _, _, Z1, rfl, upd_same, .inl ⟨r1.1, rfl⟩, kitAny_of (f := fun _ => false) fun n h => E.no n (hn' n h), ?_⟩
      have e1 : (ns.any fun _ => false) = false := by simp
      rw [e1]
      exact I1.res _ w2 _ Z1 _ [] nw ⟨rfl, rfl⟩
    | _ => exact (show False from w2).elim
  | _ => exact (show False from w2).elim
/-- e.f, e an exception of class j -/
theorem s_fld {n : Str} (E : EK X.K) (j : Nat) (hf : CN.fld j = n) (ha : PE X e (tE X.K (rxC X.K) c W ma)) (hb : attributeBase e n X.env (eval e X.env) = eval e X.env := by rfl) : PE X (.Attribute e n pos) (tE X.K (rxC X.K) c W (.fld ma j)) := by
  refine ⟨fun pins s σ H Q I h => ?_⟩
  obtain ⟨α, Z, F, P, X', I1, w⟩ := tE.el h
  refine attr_of hb (thn (ha.run pins s σ H (fun x H1 => ∃ (e : Nat) (d : D) (Z1 : ZP), RD X.K H1 Z1 (.exc e [d]) x ∧ e = j ∧ ∀ y, RD X.K H1 Z1 d y → Q y H1) I ?_) fun u s1 ⟨x, H1, J, rx, e, d, Z1, ⟨he, a, oe, ys, ex, hea, hec, hed, hf2, r⟩, ej, q⟩ => ?_)
  · refine I1.val w fun v α1 H1 Z1 F1 x Fx w1 I2 s1 g1 r1 => ?_
    cases v with
    | p dd =>
      cases dd with
      | exc e ds =>
        cases ds with
        | nil => exact (show False from w1).elim
        | cons d r =>
          cases r with
          | nil =>
            have w1 : Nat.beq e j = true ∧ P (.p d) α1 := w1
            exact ⟨e, d, Z1, r1.1, Nat.eq_of_beq_eq_true w1.1, fun y hy => I2.now w1.2 hy⟩
          | cons _ _ => exact (show False from w1).elim
      | _ => exact (show False from w1).elim
    | _ => exact (show False from w1).elim
  · subst ex
    subst ej
    obtain rfl : u = Value.ref a := rx
    obtain ⟨y, q', ey, hy, hr⟩ := r
    cases hr
    subst ey
    obtain ⟨od, JI, o, u, eo, hl, ru⟩ := inst_ex J hea hec hed hf2
    subst eo
    rw [← hf]
    exact HandSPX.exc_get J.kIn JI (E.ga e he) (E.gg e he) (E.ex e he) (PySem.W.findObj_own (E.hd e he) (E.fl e he) rfl hl) (handed_of ru) ⟨y, H1, J.tok _, ru, q y hy⟩
end
end Am

set_option maxHeartbeats 4000000
namespace L2
open PySem PySem.Spec PyProof.Rows
/-- a made exception is a value -/
theorem pe_mk {X : Cx} {e : Expr} {t : St → Hp → XK → Prop} (h : PMk X e t) : PE X e (fun σ H Q => t σ H fun cls d H' => ∀ (a : Addr) (oe : Obj), H' a = none → Zc cls d oe → (∃ vs, oe.data = .fields vs) → Q (.ref a) (upd H' a (Am.EO a oe))) := by
  refine ⟨fun pins s σ H Q I w => wpAny_mono (h pins s σ H _ I w) (fun u s' hu => ?_) fun _ _ z => z⟩
  obtain ⟨a, oe, vs, sI, H', cls, d, rfl, J, k, hne, ha, hz, hd, h1, na, os, ag, r, q⟩ := hu
  have new : ObjOk X.prog X.w (upd H' a (Am.EO a oe)) s'.heap a (Am.EO a oe) := ⟨ha, ⟨oe, ha⟩, fun h1 h2 q k => k oe q⟩
  exact ⟨.ref a, _, J.call' (ch := []) os (Un.laidN k hne na) (J.hok.laidN k na new) ag (fun b z => nomatch z), rfl, q a oe na hz ⟨vs, hd⟩⟩
end L2
namespace Am
open PySem PySem.Spec PyProof.Rows L2
variable [CN]
/-- what an exception of class n may be made of -/
def okN (n : Nat) (v : V) (H : Hp) : Prop := match n with
  | 1 => ∃ i : Int, v = .int i ∧ 0 ≤ i ∧ i < 1000
  | 2 => ∃ z : Str, v = .str z ∧ z.length ≤ 1000
  | 3 => ∃ (p : Addr) (s t : T), v = .ref p ∧ TF H p [.str (sT s), .str (sT t)] ∧ (s.length ≤ 1000 ∧ t.length ≤ 1000) ∧ (∀ c ∈ s, c < 1000) ∧ ∀ c ∈ t, c < 1000
  | _ => False
theorem raisOk_shape {n : Nat} {d : D} (h : raisOk n [d]) : (n = 1 ∧ ∃ i, d = .int i ∧ 0 ≤ i ∧ i < 1000) ∨ (n = 2 ∧ ∃ s, d = .str s ∧ s.length ≤ 1000) ∨ (n = 3 ∧ ∃ s t, d = .tup [.str s, .str t] ∧ (s.length ≤ 1000 ∧ t.length ≤ 1000) ∧ (∀ c ∈ s, c < 1000) ∧ ∀ c ∈ t, c < 1000) := by
  unfold raisOk at h
  split at h
  · rename_i i e
    cases e
    exact .inl ⟨rfl, _, rfl, h⟩
  · rename_i s e
    cases e
    exact .inr (.inl ⟨rfl, _, rfl, h⟩)
  · rename_i s t e
    cases e
    exact .inr (.inr ⟨rfl, _, _, rfl, h⟩)
  · rename_i e
    cases e
  · rename_i e
    cases e
  · exact h.elim
theorem okN_of {K : PySem.W.Frag} {H : Hp} {Z : ZP} {n : Nat} {d : D} {v : V} {a : Addr} {o : HO} (h : raisOk n [d]) (r : RD K H Z d v) (na : H a = none) : okN n v (upd H a o) := by
  rcases raisOk_shape h with ⟨rfl, i, rfl, hi⟩ | ⟨rfl, s, rfl, hs⟩ | ⟨rfl, s, t, rfl, hb⟩
  · exact ⟨i, r, hi⟩
  · exact ⟨sT s, r, by rw [sT_len]; exact hs⟩
  · obtain ⟨p, vs, rfl, ⟨ob, ht, hd, hc⟩, x, q, rfl, rfl, y, q2, rfl, rfl, hq⟩ := r
    cases hq
    exact ⟨p, s, t, rfl, ⟨ob, by rw [upd_ne (fun z => by rw [z, na] at ht; cases ht)]; exact ht, hd, hc⟩, hb⟩
section
variable {X : Cx} {c : Am.Ctx} {W : WX} {sg : List Bool} {a b d e : Expr} {st : Stmt} {pos pos' p p2 : Pos} {m ma : ME} {L : Nat}
/-- a class whose exceptions have a field: how it is made -/
def MkF (X : Cx) (n : Nat) (x : Str) : Prop :=
  ∀ {e : Expr} {ta : TA} {p1 pos : Pos}, PA X [e] ta → Gl X x → (x == ("__debug__" : Str)) = false → starEach (e :: []) X.env = (false, eval e X.env) :: starEach [] X.env → (backTo pos (starEach [] X.env)).any (·.1) = false →
    PMk X (.Call (.Name x p1) [e] [] pos) (fun σ H Q => ta σ H fun vs H1 => ∃ v, vs = [v] ∧ (∀ a, H1 a = none → okN n v (upd H1 a (exo a (CN.adr n) none))) ∧ ∀ d, H1 d = none → Q (.ref (CN.adr n)) (some d) (upd H1 d (.xd [(CN.fld n, v)])))
theorem rd_one {K : PySem.W.Frag} {H : Hp} {Z : ZP} {d : D} {xs : List V} (h : RDs K H Z [d] xs) : ∃ x, xs = [x] ∧ RD K H Z d x := by
  obtain ⟨x, q, rfl, h1, h2⟩ := h
  cases h2
  exact ⟨x, rfl, h1⟩
theorem raisOk_one {n : Nat} {ds : List D} (hn : n < 4) (h : raisOk n ds) : ∃ d, ds = [d] := by
  unfold raisOk at h
  split at h
  · exact ⟨_, rfl⟩
  · exact ⟨_, rfl⟩
  · exact ⟨_, rfl⟩
  · omega
  · omega
  · exact h.elim
/-- raise C(e) -/
theorem s_rais1 {x : Str} (B : Bd X L W) (n : Nat) (hn : n < 4) (M : MkF X n x) (ha : PA X [e] (tEs X.K (rxC X.K) c W (.cons m .nil))) (hg : Gl X x := by rfl) (hdb : (x == ("__debug__" : Str)) = false := by decide)
    (he : starEach (e :: []) X.env = (false, eval e X.env) :: starEach [] X.env := by rfl) (hpl : (backTo pos (starEach [] X.env)).any (·.1) = false := by rfl) :
    PS X (.Raise (some (.Call (.Name x p) [e] [] pos)) none pos') (tS X.K (rxC X.K) c W sg (.rais n (.cons m .nil))) :=
  PS.weak (ps_raise B.hc B.tk (M ha hg hdb he hpl)) fun D σ H ⟨α, Z, F, N, X', I, w⟩ => by
    refine I.vals w fun vs α1 H1 Z1 F1 xs Fx w1 I1 s1 g1 r1 => ?_
    obtain ⟨ds, ed, hk, w2⟩ := onO.el w1
    obtain ⟨d, rfl⟩ := raisOk_one hn hk
    have I2 := I.frz s1 g1 I1.rs
    obtain ⟨x, rfl, rd⟩ := rd_one (r1.tds ed)
    refine ⟨x, rfl, fun a na => okN_of hk rd na, fun dd hdd => ?_⟩
    have nw : New H1 (fun a => Z1 a ∨ a ∈ Fx) (upd H1 dd (.xd [(CN.fld n, x)])) (fun a => Z1 a ∨ a ∈ Fx) [] := .dat hdd
    have st := (nw F1 I2.g).1
    have g2 := (nw F1 I2.g).2
    rw [List.append_nil] at st g2
    refine I2.hX n [d] α1 w2 _ _ F1 σ _ _ st g2 .refl (I2.rs.new nw I2.g.zt) ⟨by omega, rfl, [x], ⟨dd, _, rfl, upd_same, ?_⟩, x, [], rfl, RD.keep (nw.keep I2.g.zt) d rd, rfl⟩
    simp [List.lookup]
/-- raise C('..'), C without a field -/
theorem s_rais0 {x msg : Str} {j : Nat} (B : Bd X L W) (n : Nat) (hn : n < 6) (M : ∀ {p p2 pos : Pos}, PMk X (.Call (.Name x p) [.Constant (.str msg) j p2] [] pos) (fun _ H Q => Q (.ref (CN.adr n)) none H)) :
    PS X (.Raise (some (.Call (.Name x p) [.Constant (.str msg) j p2] [] pos)) none pos') (tS X.K (rxC X.K) c W sg (.rais n .nil)) :=
  PS.weak (ps_raise B.hc B.tk M) fun D σ H ⟨α, Z, F, N, X', I, w⟩ => by
    have w : onO (toDs []) (fun ds => raisOk n ds ∧ X' n ds α) := w
    obtain ⟨ds, ed, hk, w2⟩ := onO.el w
    cases ed
    exact I.hX n [] α w2 H Z F σ _ _ .refl I.g .refl I.rs ⟨hn, rfl, [], rfl, rfl⟩
/-- C(e) as a value -/
theorem s_mkE {x : Str} (n : Nat) (hn : n < 4) (M : MkF X n x) (ha : PA X [e] (tEs X.K (rxC X.K) c W (.cons m .nil))) (hg : Gl X x := by rfl) (hdb : (x == ("__debug__" : Str)) = false := by decide)
    (he : starEach (e :: []) X.env = (false, eval e X.env) :: starEach [] X.env := by rfl) (hpl : (backTo pos (starEach [] X.env)).any (·.1) = false := by rfl) :
    PE X (.Call (.Name x p) [e] [] pos) (tE X.K (rxC X.K) c W (.mkE n (.cons m .nil))) :=
  PE.weak (pe_mk (M ha hg hdb he hpl)) fun σ H Q h => by
    obtain ⟨α, Z, F, P, X', I, w⟩ := tE.el h
    refine I.vals w fun vs α1 H1 Z1 F1 xs Fx w1 I1 s1 g1 r1 => ?_
    obtain ⟨ds, ed, hk, w2⟩ := onO.el w1
    obtain ⟨d, rfl⟩ := raisOk_one hn hk
    have I2 := I.frz s1 g1 I1.rs
    obtain ⟨x, rfl, rd⟩ := rd_one (r1.tds ed)
    refine ⟨x, rfl, fun a na => okN_of hk rd na, fun dd hdd a oe na hz hd => ?_⟩
    have nw : New H1 (fun a => Z1 a ∨ a ∈ Fx) (upd H1 dd (.xd [(CN.fld n, x)])) (fun a => Z1 a ∨ a ∈ Fx) [] := .dat hdd
    have nw2 : New (upd H1 dd (.xd [(CN.fld n, x)])) (fun a => Z1 a ∨ a ∈ Fx) (upd (upd H1 dd (.xd [(CN.fld n, x)])) a (EO a oe)) (fun a => Z1 a ∨ a ∈ Fx) [] := .dat na
    have st := (nw F1 I2.g).1
    have g2 := (nw F1 I2.g).2
    rw [List.append_nil] at st g2
    have I3 := I2.next (Fx := []) (by rw [List.append_nil]; exact st) (by rw [List.append_nil]; exact g2) (I2.rs.new nw I2.g.zt)
    have k2 := nw2.keep g2.zt
    refine I3.res _ w2 _ _ _ [] nw2 ⟨⟨by omega, a, oe, [x], rfl, upd_same, hz.1, hd, ?_, x, [], rfl, RD.keep k2 d (RD.keep (nw.keep I2.g.zt) d rd), rfl⟩, rfl⟩
    rw [hz.2]
    refine k2.xf ⟨dd, [(CN.fld n, x)], rfl, upd_same, ?_⟩
    simp [List.lookup]
end
end Am

set_option maxHeartbeats 4000000
namespace L2
open PySem PySem.Spec PyProof.Rows
/-- the text of an exception -/
abbrev rSS : List V → Hp → VK → Prop := fun xs H Q => ∃ a, xs = [.str a] ∧ Q (.str a) H
abbrev rSI : List V → Hp → VK → Prop := fun xs H Q => ∃ i, xs = [.int i] ∧ i.natAbs.log2 < 1920 ∧ Q (.str (toString i)) H
abbrev rAS : R2 := fun x y H Q => ∃ i j, x = .str i ∧ y = .str j ∧ i.length + j.length ≤ sizeLine ∧ Q (.str (i ++ j)) H
def tMsg (r : List V → Hp → VK → Prop) (m : Str) : TE := tOp rAS (tC (.str m)) (tCB r (tCons (tVar 1) tNil))
theorem msg2 {m : Str} (hm : m.length ≤ 1000) (σ : St) (H : Hp) (Q : VK) (v : V) (e : σ[1]? = some (some v)) (h : Am.okN 2 v H) (q : ∀ z, Q (.str z) H) : tMsg rSS m σ H Q := by
  obtain ⟨z, rfl, hz⟩ := h
  refine ⟨_, e, z, rfl, m, z, rfl, rfl, ?_, q _⟩
  rw [sizeLine_eq]
  omega
theorem int_len : ∀ n : Nat, n < 1000 → Str.length (Str.ofString (toString (n : Int))) ≤ 4 := by decide +kernel
theorem refs1 (C0 : Addr) : PySem.HandSPX.refsVE [.ref C0, .type "ValueError", .type "Exception", .type "BaseException", .type "object"] = true := by
  show PySem.HandSPX.refsVE [.type "ValueError", .type "Exception", .type "BaseException", .type "object"] = true
  decide +kernel
theorem msg1 {m : Str} (hm : m.length ≤ 1000) (σ : St) (H : Hp) (Q : VK) (v : V) (e : σ[1]? = some (some v)) (h : Am.okN 1 v H) (q : ∀ z, Q (.str z) H) : tMsg rSI m σ H Q := by
  obtain ⟨i, rfl, h0, h1⟩ := h
  refine ⟨_, e, i, rfl, ?_, m, _, rfl, rfl, ?_, q _⟩
  · obtain ⟨n, rfl⟩ := Int.eq_ofNat_of_zero_le h0
    have : n < 1000 := by omega
    have e : (n : Int).natAbs.log2 ≤ n := by
      show Nat.log2 n ≤ n
      exact Nat.log2_le_self n
    omega
  · obtain ⟨n, rfl⟩ := Int.eq_ofNat_of_zero_le h0
    have : n < 1000 := by omega
    have := int_len n this
    rw [sizeLine_eq]
    omega
end L2
namespace Am
open PySem PySem.Spec PyProof.Rows L2
@[reducible] def cnOf (Cs : List Nat) (fs : List Str) (sb : Nat → Nat → Bool := subE) (ds : List Nat := []) (gs : List (List Str) := []) : CN := ⟨fun k => Cs.getD k 0, fun k => fs.getD k "", sb, fun k => ds.getD k 0, fun k => gs.getD k []⟩
/-- the classes, looked at -/
def ecB (K : PySem.W.Frag) (Cs : List Nat) (fs : List Str) (sb : Nat → Nat → Bool := subE) : Bool :=
  let _ : CN := cnOf Cs fs sb
  (List.range 6).all (fun e =>
    (PySem.W.clsIn K (CN.adr e)).isSome &&
    (decide (PySem.W.findIn K (.ref (CN.adr e)) "__getattribute__" = some (some (.builtin "BaseException.__getattribute__"))) &&
    (decide (PySem.W.findIn K (.ref (CN.adr e)) "__getattr__" = some none) &&
    (decide (PySem.W.subIn K (.ref (CN.adr e)) (.type "BaseException") = some true) &&
    (decide (PySem.W.typeIn K (.ref (CN.adr e)) = some (.type "type")) &&
    (PySem.W.hasDictIn K (CN.adr e) &&
    (decide (PySem.W.findIn K (.ref (CN.adr e)) "__class__" = some (some (.builtin "object.__class__"))) &&
    (decide (PySem.W.mroIn K (CN.adr e) (.type "object") = some true) &&
    (decide (PySem.W.findIn K (.ref (CN.adr e)) (CN.fld e) = some none) &&
    (PySem.W.keepIn K (.ref (CN.adr e)) &&
    ((List.range 7).all (fun k => decide (PySem.W.kitOne K (.ref (CN.adr e)) (clV k) = some (CN.sub e k))) &&
    (List.range 6).all (fun k => decide (PySem.W.exmOne K (.ref (CN.adr e)) (.ref (CN.adr k)) = some (CN.sub e k)))))))))))))) &&
  ((List.range 7).all (fun k => decide (PySem.W.kitOne K (.type "NoneType") (clV k) = some false)) &&
  (decide (PySem.W.specialIn K (.builtin "object.__class__") "__get__" = some (some (.builtin "getset_descriptor.__get__"))) &&
  decide (PySem.W.takesIn K (.builtin "object.__class__") = some true)))
theorem all_rng {n : Nat} {f : Nat → Bool} (h : (List.range n).all f = true) : ∀ e < n, f e = true := fun e he => List.all_eq_true.mp h e (List.mem_range.mpr he)
theorem ecB_ok {K : PySem.W.Frag} {Cs : List Nat} {fs : List Str} {sb : Nat → Nat → Bool} {ds : List Nat} {gs : List (List Str)} (h : ecB K Cs fs sb = true) : @EK (cnOf Cs fs sb ds gs) K := by
  let _ : CN := cnOf Cs fs sb ds gs
  unfold ecB at h
  obtain ⟨h1, h2⟩ := Bool.and_eq_true_iff.mp h
  obtain ⟨n1, h2⟩ := Bool.and_eq_true_iff.mp h2
  obtain ⟨n2, n3⟩ := Bool.and_eq_true_iff.mp h2
  have h1 := all_rng h1
  have n1 := all_rng n1
  have c1 := fun e he => Bool.and_eq_true_iff.mp (h1 e he)
  have c2 := fun e he => Bool.and_eq_true_iff.mp (c1 e he).2
  have c3 := fun e he => Bool.and_eq_true_iff.mp (c2 e he).2
  have c4 := fun e he => Bool.and_eq_true_iff.mp (c3 e he).2
  have c5 := fun e he => Bool.and_eq_true_iff.mp (c4 e he).2
  have c6 := fun e he => Bool.and_eq_true_iff.mp (c5 e he).2
  have c7 := fun e he => Bool.and_eq_true_iff.mp (c6 e he).2
  have c8 := fun e he => Bool.and_eq_true_iff.mp (c7 e he).2
  have c9 := fun e he => Bool.and_eq_true_iff.mp (c8 e he).2
  have c10 := fun e he => Bool.and_eq_true_iff.mp (c9 e he).2
  have c11 := fun e he => Bool.and_eq_true_iff.mp (c10 e he).2
  exact ⟨fun e he => (c1 e he).1, fun e he => of_decide_eq_true (c2 e he).1, fun e he => of_decide_eq_true (c3 e he).1, fun e he => of_decide_eq_true (c4 e he).1, fun e he => of_decide_eq_true (c5 e he).1, fun e he => (c6 e he).1,
    fun e he => of_decide_eq_true (c7 e he).1, fun e he => of_decide_eq_true (c8 e he).1, fun e he => of_decide_eq_true (c9 e he).1, fun e he => (c10 e he).1, of_decide_eq_true n2, of_decide_eq_true n3,
    fun e he k hk => of_decide_eq_true (all_rng (c11 e he).1 k hk), fun k hk => of_decide_eq_true (n1 k hk), fun e he k hk => of_decide_eq_true (all_rng (c11 e he).2 k hk)⟩
variable [CN]
/-- class n has an __init__ that stores its argument -/
structure XI (P : Program) (w : World) (K : PySem.W.Frag) (mg : Str → Option Value) (base : Heap) (n : Nat) (p : Str) : Prop where
  ex : ∃ fI fd, PySem.W.findIn K (.ref (CN.adr n)) "__init__" = some (some (.ref fI)) ∧ PySem.W.typeIn K (.ref fI) = some (.type "function") ∧ FnOk P w K mg base (L2.CX P w) 1 fI fd [("self" : Str), p] (spI K (CN.adr n) (CN.fld n) (okN n)) ∧ Binds K fd [("self" : Str), p] []
  T : OexC K (CN.adr n)
theorem XI.mk' {X : Cx} {L n : Nat} {W : WX} {p x : Str} (h : XI X.prog X.w X.K X.mg X.base n p) (B : Bd X (L + 2) W) (hm : X.mg x = some (.ref (CN.adr n))) : MkF X n x := fun ha hg hdb he hpl =>
  let ⟨fI, fd, iC, tI, F1, hb⟩ := h.ex
  pmk_fld h.T iC tI F1 (B.hr.mono (by omega)) hb (passes_call takes0 fun _ _ _ _ z => z) hg hm ha hdb he hpl
end Am

set_option maxHeartbeats 4000000
namespace Am
open PySem PySem.Spec PyProof.Rows L2
variable [CN]
section
variable {K : PySem.W.Frag} {H : Hp} {Z : ZP} {t : ME}
theorem rangeN_at {lo hi : Int} {i : Nat} (h : i < (lo - hi).toNat) : (rangeN lo hi)[i]? = some (.int (lo + (i : Nat) * (-1))) := by
  unfold rangeN
  rw [List.getElem?_map, List.getElem?_range h]
  rfl
theorem rangeN_len (lo hi : Int) : (rangeN lo hi).length = (lo - hi).toNat := by
  unfold rangeN
  rw [List.length_map, List.length_range]
theorem drwN {lo hi : Int} : Drw K (Itc lo (-1) (lo - hi).toNat) t (rangeN lo hi) H Z := by
  have hl := rangeN_len lo hi
  refine ⟨fun i h => ⟨by rw [hl] at h; exact h, fun y H' hy => ?_⟩, fun i h => by rw [hl] at h; exact h⟩
  obtain ⟨rfl, rfl⟩ := hy
  rw [hl] at h
  exact ⟨_, rangeN_at h, .refl, .inl rfl⟩
end
section
variable {X : Cx} {rx : RX} {c : Am.Ctx} {W : WX} {a b d tg : Expr} {ma mb md t : ME}
theorem si_range3 {p pos : Pos} (hm : X.mg "range" = none) (ha : PA X [a, b, d] (tEs X.K rx c W (.cons ma (.cons mb (.cons md .nil))))) (hg : Gl X "range" := by rfl)
    (hs : starEach [a, b, d] X.env = (false, eval a X.env) :: starEach [b, d] X.env := by rfl) (hpl : (backTo pos (starEach [b, d] X.env)).any (·.1) = false := by rfl) :
    PI X tg (.Call (.Name "range" p) [a, b, d] [] pos) (tI X.K rx c W t (.range (.cons ma (.cons mb (.cons md .nil))))) := PI.weak (pi_range3 hg hm ha hs hpl) fun σ H R ⟨α, Z, F, k, X', rs, g, w, hX, cont⟩ => by
  have w : wpEs c (.cons ma (.cons mb (.cons md .nil))) α (fun vs α1 => match vs with
    | [x, y, z] => onI x fun i => onI y fun j => onI z fun st => (-(2 ^ 62) ≤ i ∧ i < 2 ^ 62 ∧ -(2 ^ 62) ≤ j ∧ j < 2 ^ 62 ∧ st = -1) ∧ k (rangeN i j) (fun _ => True) (fun β => β) α1
    | _ => False) X' := w
  refine ⟨α, Z, F, _, X', rs, g, w, fun vs α1 w1 H1 Z1 F1 xs Fx s1 g1 rs1 r1 => ?_, hX⟩
  match vs, w1, r1 with
  | [v, u, q], w1, r1 =>
    obtain ⟨x, q1, Fa, Fb, rfl, rfl, ra, ⟨y, q2, Fc, Fd, rfl, rfl, rb, ⟨z, q3, Fe, Ff, rfl, rfl, rc, ⟨rfl, rfl⟩⟩⟩⟩ := r1
    obtain ⟨i, rfl, w2⟩ := onI.el w1
    obtain ⟨j, rfl, w4⟩ := onI.el w2
    obtain ⟨st, rfl, ⟨b1, b2, b3, b4, rfl⟩, w3⟩ := onI.el w4
    obtain ⟨rfl, rfl⟩ := ra
    obtain ⟨rfl, rfl⟩ := rb
    obtain ⟨rfl, rfl⟩ := rc
    rw [List.append_nil, List.append_nil, List.append_nil, List.append_nil] at s1 g1
    exact ⟨i, j, -1, _, rfl, RgC.neg b1 b2 b3 b4, cont _ _ _ _ w3 H1 Z1 F1 _ s1 g1 rs1 fun H' Z' α' σ' F' s g' rs' _ => ⟨rs', drwN⟩⟩
end
section
variable {X : Cx} {x msg : Str} {j : Nat}
/-- a class without an __init__ of its own -/
def ExcOwn0 (K : PySem.W.Frag) (C : Addr) : Prop := PySem.W.excIn K C [.type "ValueError", .type "Exception", .type "BaseException", .type "object"] "ValueError.__new__" = true
theorem pmk_own0 {n : Nat} (q : ExcOwn0 X.K (CN.adr n)) (hm : X.mg x = some (.ref (CN.adr n))) (E : EK X.K) (hn : n < 6) (hg : Gl X x) (hdb : (x == ("__debug__" : Str)) = false) : ∀ {p p2 pos : Pos}, PMk X (.Call (.Name x p) [.Constant (.str msg) j p2] [] pos) (fun _ H Q => Q (.ref (CN.adr n)) none H) :=
  fun {p p2 pos} => pmk_own PySem.F.excBase_ValueError q hm (E.kp n hn) (raises_own (E.ex n hn) (E.ty n hn)) hg hdb
end
end Am

set_option maxHeartbeats 4000000
namespace L2
open PySem PySem.Spec PyProof.Rows
abbrev rSP (K : PySem.W.Frag) : List V → Hp → VK → Prop := fun xs H Q => ∃ (a : Addr) (l : List Str), xs = [.ref a] ∧ SqT K H a (l.map V.str) ∧ (∀ y ∈ l, ∀ c ∈ y.cps.toList, c < 16 ^ 8) ∧ fmtCost l + 7 ≤ sizeLine ∧ ∀ m : Str, m.length ≤ fmtCost l + 7 → Q (.str m) H
theorem call_str_pair {X : Cx} (hu : X.A.units + 16 * 0 + 200 < cLine) : CallR X (.type "str") (rSP X.K) := by
  intro pins s σ H xs us Q I r h
  obtain ⟨a, l, rfl, ht, hc, hz, q⟩ := h
  obtain ⟨u, rfl, r1⟩ := vals1 r
  cases r1
  obtain ⟨its, rv, ⟨o, ho, hcl, n, hd⟩, _⟩ := I.tuple ht
  have hp := fmt_piled l hc
  have htx := fmt_text (l.map reprText)
  refine callType_new F.called_str (by decide) (F.typeCall_str_1 _) (F.newCall_str_1 _) (fun obj => F.args_object_init_2 obj _) F.entry_str_new
    (meets_str_new (S := fun A' R s' => A'.units + 5 < cLine ∧ s'.heap.get? a = some o ∧ ∀ (m : Str) (u tk : Tok), m.length ≤ (tupleText (l.map reprText)).length + 5 → R (.ok (.ret (.str m u))) { s' with toks := tk })
      fun prog' w' A' R s' h => ?_)
    ⟨by show X.A.units + 1 + 5 < cLine; omega, ho, fun m u tk hm => ⟨typeIs_str _ _ _, .str m, H, I.tok _, ⟨u, rfl⟩, q m (by omega)⟩⟩
  refine wpAny_strOf_slot rfl (by show A'.units + 1 + 1 < cLine; have := h.1; omega) ⟨o, h.2.1, hcl⟩ F.slot_tuple_str F.slot_tuple_repr (fmt_tuple_repr h.2.1 hcl hd (repr_all rv fun y hy => ?_) (by omega) fun m u tk hm => ⟨m, u, rfl, h.2.2 m u tk hm⟩)
  have h1 := StrLaws.reprText_len y (hc y hy)
  have h2 := fmtCost_mem hy
  omega
theorem msg3 {K : PySem.W.Frag} {m : Str} (hm : m.length ≤ 1000) (σ : St) (H : Hp) (Q : VK) (v : V) (e : σ[1]? = some (some v)) (h : Am.okN 3 v H) (q : ∀ z, Q (.str z) H) : tMsg (rSP K) m σ H Q := by
  obtain ⟨p, s, t, rfl, ht, ⟨ls, lt⟩, cs, ct⟩ := h
  have lsT : ∀ s : Am.T, (Am.sT s).length = s.length := fun s => by simp [Am.sT, Str.length]
  have cost : fmtCost [Am.sT s, Am.sT t] = 10 * s.length + 4 + (10 * t.length + 4) := by
    rw [fmtCost_cons, fmtCost_cons, lsT, lsT]
    rfl
  refine ⟨_, e, p, [Am.sT s, Am.sT t], rfl, (let ⟨o, h, _⟩ := ht; .inl (.inr ⟨o, h⟩)), fun y hy c hc => ?_, ?_, fun z hz => ⟨m, z, rfl, rfl, ?_, q _⟩⟩
  · simp only [List.mem_cons, List.not_mem_nil, or_false] at hy
    rcases hy with rfl | rfl
    · have := cs c hc
      omega
    · have := ct c hc
      omega
  · rw [cost, sizeLine_eq]
    omega
  · rw [cost] at hz
    rw [sizeLine_eq]
    omega
end L2

set_option maxHeartbeats 4000000
namespace Am
open PySem PySem.W PySem.F L2
mutual
theorem alike_D : ∀ x y : D, sameShape x y = true → alike (toPy x) (toPy y) = true
  | .int _, y, h => by cases y <;> first | (simp [toPy, alike]; done) | (simp [sameShape] at h)
  | .str _, y, h => by cases y <;> first | (simp [toPy, alike]; done) | (simp [sameShape] at h)
  | .tup xs, y, h => by
    cases y with
    | tup ys =>
      simp only [sameShape] at h
      simp only [toPy, alike]
      exact alike_L xs ys h
    | _ => simp [sameShape] at h
  | .non, y, h => by simp [sameShape] at h
  | .bl _, y, h => by simp [sameShape] at h
  | .lst _, y, h => by simp [sameShape] at h
  | .dct _, y, h => by simp [sameShape] at h
  | .exc _ _, y, h => by simp [sameShape] at h
  | .exs _ _, y, h => by simp [sameShape] at h
theorem alike_L : ∀ xs ys : List D, sameShape.shapes xs ys = true → alikeAll (toPys xs) (toPys ys) = true
  | [], ys, h => by cases ys <;> simp [toPys, alikeAll]
  | x :: r, [], h => by simp [toPys, alikeAll]
  | x :: r, y :: q, h => by
    simp only [sameShape.shapes, Bool.and_eq_true] at h
    simp only [toPys, alikeAll, Bool.and_eq_true]
    exact ⟨alike_D x y h.1, alike_L r q h.2⟩
end
variable [CN]
mutual
theorem lt_D : ∀ x y : D, sameShape x y = true → x.dep ≤ 180 → y.dep ≤ 180 → dataLt (toPy x) (toPy y) = ltD x y
  | .int i, y, h, _, _ => by
    cases y with
    | int j => exact dataLt_int i j
    | _ => simp [sameShape] at h
  | .str i, y, h, _, _ => by
    cases y with
    | str j => exact dataLt_str (sT i) (sT j)
    | _ => simp [sameShape] at h
  | .tup xs, y, h, d1, d2 => by
    cases y with
    | tup ys =>
      simp only [sameShape] at h
      simp only [D.dep] at d1 d2
      simp only [toPy, ltD]
      rw [dataLt_tuple]
      show rowLt _ _ = _
      exact lt_L xs ys h (by omega) (by omega)
    | _ => simp [sameShape] at h
  | .non, y, h, _, _ => by simp [sameShape] at h
  | .bl _, y, h, _, _ => by simp [sameShape] at h
  | .lst _, y, h, _, _ => by simp [sameShape] at h
  | .dct _, y, h, _, _ => by simp [sameShape] at h
  | .exc _ _, y, h, _, _ => by simp [sameShape] at h
  | .exs _ _, y, h, _, _ => by simp [sameShape] at h
theorem lt_L : ∀ xs ys : List D, sameShape.shapes xs ys = true → depL xs ≤ 180 → depL ys ≤ 180 → rowLt (toPys xs) (toPys ys) = ltD.ltL xs ys
  | [], [], h, _, _ => PyProof.Rows.lex_irrefl _
  | [], _ :: _, h, _, _ => by simp [sameShape.shapes] at h
  | _ :: _, [], h, _, _ => by simp [sameShape.shapes] at h
  | x :: r, y :: q, h, d1, d2 => by
    simp only [sameShape.shapes, Bool.and_eq_true] at h
    simp only [depL] at d1 d2
    simp only [toPys, ltD.ltL]
    unfold rowLt
    rw [dataLt_cons (alike_D x y h.1), eqD_py x y (by omega) (by omega), lt_D x y h.1 (by omega) (by omega), show PyProof.Rows.lexLt PyProof.Rows.itemOrd (keyToksAll (toPys r)) (keyToksAll (toPys q)) = ltD.ltL r q from lt_L r q h.2 (by omega) (by omega)]
end
section
variable {K : PySem.W.Frag} {H H' : Hp} {Z Z' : ZP} {X : Cx} {c : Am.Ctx}
def encS (b : D × V) : PyData := toPy b.1
theorem each_S {pins : List (Addr × Obj)} {σ : St} {s : Shared} (I : Inv X pins σ H s) : ∀ {ds : List D} {ws : List V} {us : List Value}, RDs X.K H Z ds ws → Vals ws us → depL ds ≤ 180 →
    EachIs (fun u b => (RelV b.2 u ∧ RD X.K H Z b.1 b.2) ∧ ∃ as, Reads s.heap u (encS b) as) us (ds.zip ws)
  | [], _, _, h, r, _ => by
    cases h
    cases r
    exact .nil
  | d :: ds, _, _, h, r, hd => by
    obtain ⟨x, q, rfl, h1, h2⟩ := h
    simp only [depL] at hd
    cases r with
    | cons r1 r2 => exact .cons ⟨⟨r1, h1⟩, RD.reads I d h1 r1 (by omega)⟩ (each_S I h2 r2 (by omega))
omit [CN] in
theorem dep_mem : ∀ {ds : List D} {d : D}, d ∈ ds → d.dep ≤ depL ds
  | x :: r, d, h => by
    simp only [depL]
    rcases List.mem_cons.mp h with rfl | h
    · omega
    · have := dep_mem h
      omega
theorem out_S : ∀ {us : List Value} {bs : List (D × V)}, EachIs (fun u b => RelV b.2 u ∧ RD K H Z b.1 b.2) us bs → Vals (bs.map Prod.snd) us ∧ RDs K H Z (bs.map Prod.fst) (bs.map Prod.snd)
  | _, _, .nil => ⟨.nil, rfl⟩
  | _, _, .cons ⟨h1, h2⟩ t => ⟨.cons h1 (out_S t).1, ⟨_, _, rfl, h2, (out_S t).2⟩⟩
theorem cr_sortT (hu : X.A.units + 190 < cLine) : CallR X (.builtin "sorted") (rBi X.K c .sortT) := fun pins s σ H xs us Q I r ⟨Z, vs, k, zt, rl, w, res⟩ => by
  match vs, w, rl with
  | [v], w, rl =>
    obtain ⟨ds, e, ⟨sh, kind, dp⟩, w⟩ := onO.el w
    obtain ⟨x, F, rfl, ra⟩ := rl.one'
    obtain ⟨a, ws, rfl, h1, h2⟩ := ra.list e
    obtain ⟨its, rv, hl, hz⟩ := I.list h1
    rw [Vals.ref1 r]
    have lw : ds.length = ws.length := h2.len
    have each := each_S I h2 rv dp
    have fst : ∀ b ∈ ds.zip ws, b.1 ∈ ds := fun b hb => (List.of_mem_zip (a := b.1) (b := b.2) hb).1
    have hal : AllAlike ((ds.zip ws).map encS) := fun d hd d' hd' => by
      obtain ⟨b, hb, rfl⟩ := List.mem_map.mp hd
      obtain ⟨b', hb', rfl⟩ := List.mem_map.mp hd'
      exact alike_D _ _ (sh _ (fst b hb) _ (fst b' hb'))
    have hk : PySem.W.Sortable ((ds.zip ws).map encS) := by
      rcases kind with kr | ks
      · refine .inl fun d hd => ?_
        obtain ⟨b, hb, rfl⟩ := List.mem_map.mp hd
        have := List.all_eq_true.mp kr _ (fst b hb)
        unfold encS
        cases e : b.1 with
        | tup xs =>
          rw [e] at this
          cases xs with
          | nil => cases this
          | cons x r => exact ⟨toPy x, toPys r, by simp only [toPy, toPys]⟩
        | _ => rw [e] at this; cases this
      · refine .inr fun d hd => ?_
        obtain ⟨b, hb, rfl⟩ := List.mem_map.mp hd
        have := List.all_eq_true.mp ks _ (fst b hb)
        unfold encS
        cases e : b.1 with
        | str s => exact ⟨nofun, fun _ => nofun⟩
        | _ => rw [e] at this; cases this
    refine sorted_data (R := fun u b => RelV b.2 u ∧ RD X.K H Z b.1 b.2) (enc := encS) (bs := ds.zip ws) hl.isList (each.mono fun _ _ h => h.1) (each.mono fun _ _ h => h.2) hal hk (by rw [List.length_zip, lw]; omega)
      (fun b hb => by
        have := (toPy_plain b.1 (by have := dep_mem (fst b hb); omega)).2
        have := dep_mem (fst b hb)
        unfold encS
        omega) fun out ho eo => ?_
    obtain ⟨ov, od⟩ := out_S eo
    obtain ⟨ep, he'⟩ := PyProof.Rows.sortedAll_at s.heap its out.toArray
    have pb := List.mergeSort_perm (ds.zip ws) (dataLe false encS)
    have p1 : ((((ds.zip ws).mergeSort (dataLe false encS))).map Prod.fst).Perm ds := by
      have := pb.map Prod.fst
      rwa [List.map_fst_zip (by omega)] at this
    have ple : ((((ds.zip ws).mergeSort (dataLe false encS))).map Prod.fst).Pairwise leD := by
      have := sort_pairwise (le := dataLe false encS) (sortLe_total _ _ _) (ds.zip ws)
      refine List.pairwise_map.mpr (List.Pairwise.imp_of_mem (fun {a b} ha hb hab => ?_) this)
      have ma := fst a (pb.mem_iff.mp ha)
      have mb := fst b (pb.mem_iff.mp hb)
      have hab : (!dataLt (encS b) (encS a)) = true := hab
      unfold encS at hab
      rw [lt_D b.1 a.1 (sh _ mb _ ma) (by have := dep_mem mb; omega) (by have := dep_mem ma; omega)] at hab
      exact by simpa [leD] using hab
    have hlen : ((((ds.zip ws).mergeSort (dataLe false encS))).map Prod.snd).length ≤ sizeLine := by
      rw [List.length_map, pb.length_eq, List.length_zip]
      omega
    exact ⟨.ref _, upd H (s.heap.objs.size + 1) (.lst _), I.laid (t' := s.toks) (fun _ _ => PyProof.Rows.sortedAll_old) (Nat.le_succ _) ⟨hlen, out, ep, ov, he'⟩, rfl, res.lst zt (w _ p1 ple) od (I.hok.fresh (Nat.le_succ _))⟩
end
end Am

set_option maxHeartbeats 4000000
namespace L2
open PySem PySem.Spec PyProof.Rows
theorem pe_strOwn {X : Cx} {C : Addr} {bmB : List Value} {B newId initId : String} {x m : Str} {j : Nat} {ps p p2 pos pos' : Pos} (hu : X.A.units + 190 < cLine) (F : ExcBaseFacts B newId initId bmB) (q : PySem.W.excIn X.K C bmB newId = true) (gC : X.mg x = some (.ref C)) (kC : PySem.W.keepIn X.K (.ref C) = true) (hg : Gl X x)
    (hgs : Gl X "str") (hms : X.mg "str" = none) (hs : PySem.W.findIn X.K (.ref C) "__str__" = some (some (.builtin "BaseException.__str__"))) (hB : PySem.W.subIn X.K (.ref C) (.type "BaseException") = some true)
    (hdb : (x == ("__debug__" : Str)) = false) :
    PE X (.Call (.Name "str" ps) [.Call (.Name x p) [.Constant (.str m) j p2] [] pos] [] pos') (fun _ H Q => Q (.str m) H) := by
  refine ⟨fun pins s σ H Q I h => ?_⟩
  refine wpAny_Call_Name_kw (ld_blt I hgs hms rfl ?_ (by decide) (by decide))
  refine PyProof.Rows.callWith_type1 ?_ rfl rfl
  show wpAny _ _ (spliced ((false, eval (.Call (.Name x p) [.Constant (.str m) j p2] [] pos) X.env) :: backTo pos' (starEach [] X.env))) _ _ s
  refine Calls.spliced_cons ?_
  refine wpAny_Call_Name_kw (ld_glob I hg gC ?_ hdb)
  have ha : PA X [.Constant (.str m) j p2] (tCons (tC (.str m)) tNil) := pa_cons pe_str pa_nil
  refine PySem.W.callWith_K (h₀ := X.base) I.ok.mod.kin kC (thn (ha.run pos pins s σ H (fun vs H1 => vs = [V.str m] ∧ H = H1) I ⟨rfl, rfl⟩) fun us s1 hh => ?_)
  obtain ⟨vs, H1, I1, r1, ev, eH⟩ := hh
  subst ev
  rw [← eH] at I1
  refine ⟨I1.kIn, ?_⟩
  cases r1 with
  | cons ru rn =>
    rename_i u us'
    cases rn
    obtain ⟨tk, rfl⟩ : ∃ tk, u = .str m tk := ru
    show wpAny _ _ (call (.ref C) [.str m tk]) _ _ _
    obtain ⟨bm, N, nm, qn, bs, hdct, sn, sub, ab, col, dd, k0, k1, k2, k3, k5, mN, hC, hN, hni, T⟩ := exc_obj I1.kIn q
    refine wpAny_call_exc_subT F T hC hN hni (fun h' e hm => ?_) (by show 1 ≤ sizeLine; rw [sizeLine_eq]; omega)
    refine Calls.spliced_nil ?_
    obtain ⟨t, he, _, ht⟩ := hm.there
    refine P.str_of_C_one (C := C) (t0 := t) (m := m) (tk := tk) (by omega) ⟨I1.kIn.keeps hm.keeps, _, _, he, rfl, rfl, rfl⟩ ⟨_, _, ht, rfl, rfl⟩ hs hB ?_
    exact ⟨.str m, H, I1.kept hm.keeps, ⟨tk, rfl⟩, h⟩
end L2
namespace Am
open PySem PySem.Spec PyProof.Rows L2
variable [CN]
def StrOwn (K : PySem.W.Frag) (C : Addr) : Prop := decide (PySem.W.findIn K (.ref C) "__str__" = some (some (.builtin "BaseException.__str__"))) = true
theorem s_strX {X : Cx} {c : Am.Ctx} {rx : RX} {W : WX} {n : Nat} {x msg : Str} {y : T} {j : Nat} {ps p p2 pos pos' : Pos} (hn : n < 6) (hu : X.A.units + 190 < cLine) (q : ExcOwn0 X.K (CN.adr n)) (so : StrOwn X.K (CN.adr n)) (hm : X.mg x = some (.ref (CN.adr n))) (E : EK X.K) (hms : X.mg "str" = none)
    (h : msg = sT y := by rfl) (hg : Gl X x := by rfl) (hgs : Gl X "str" := by rfl) (hdb : (x == ("__debug__" : Str)) = false := by decide) :
    PE X (.Call (.Name "str" ps) [.Call (.Name x p) [.Constant (.str msg) j p2] [] pos] [] pos') (tE X.K rx c W (.cst (.str y))) :=
  PE.weak (pe_strOwn hu PySem.F.excBase_ValueError q hm (E.kp n hn) hg hgs hms (of_decide_eq_true so) (E.ex n hn) hdb) fun _ _ _ => tC_of (k := .str y) fun _ _ _ => congrArg V.str h
end Am

set_option maxHeartbeats 4000000
namespace Am
open PySem PySem.W PySem.F L2
section
variable [CN]
variable {K : PySem.W.Frag} {H H' : Hp} {Z Z' : ZP} {X : Cx} {c : Am.Ctx}
theorem pairs_rel : ∀ {xs : List D} {ws : List V} {kvs : List (Am.Key × D)}, RDs K H Z xs ws → pairs? xs = some kvs →
    ∃ (ps : List Addr) (kws : List (L2.Key × V)), ws = ps.map V.ref ∧ Paired (fun p kv => SqT K H p [kV kv.1, kv.2]) ps kws ∧ RK K H Z kvs kws
  | [], _, _, h, e => by
    cases h
    cases e
    exact ⟨[], [], rfl, .nil, rfl⟩
  | d :: r, _, kvs, ⟨x, q, e1, h3, h4⟩, e => by
    subst e1
    cases d with
    | tup ds =>
      obtain ⟨a, vs, rfl, tf, rs⟩ := h3
      match ds, rs, e with
      | [kd, d], rs, e =>
        simp only [pairs?] at e
        split at e
        · rename_i j ej
          obtain ⟨l, e1, rfl⟩ := Option.map_eq_some_iff.mp e
          obtain ⟨ps, kws, rfl, pr, rk⟩ := pairs_rel h4 e1
          obtain ⟨y, q, rfl, r1, z, q2, rfl, r2, e3⟩ := rs
          cases e3
          have ey : y = kV (kK j) := by
            cases kd <;> first | (cases ej; exact r1) | cases ej
          subst ey
          exact ⟨a :: ps, (kK j, z) :: kws, rfl, .cons (TF.sq tf) pr, z, kws, rfl, r2, rk⟩
        · cases e
    | _ => simp only [pairs?] at e; cases e
theorem cr_dictP (hc : X.calm = true) : CallR X (.type "dict") (rBi X.K c .dictP) := fun pins s σ H xs us Q I r ⟨Z, vs, k, zt, rl, w, res⟩ => by
  match vs, w, rl with
  | [v], w, rl =>
    obtain ⟨ds, e, w⟩ := onO.el w
    obtain ⟨kvs, ek, w⟩ := onO.el w
    obtain ⟨x, F, rfl, ra⟩ := rl.one'
    obtain ⟨a, ws, rfl, h1, h2⟩ := ra.list e
    obtain ⟨ps, kws, rfl, pr, rk⟩ := pairs_rel h2 ek
    exact call_dictP hc pins s σ H _ us Q I r ⟨a, ps, kws, rfl, h1, pr, fun p hp => res.dct zt w (RK.merge rk (show RK X.K H Z [] [] from rfl)) hp⟩
end
end Am

set_option maxHeartbeats 4000000
namespace Am
open PySem PySem.Spec PyProof.Rows L2
section
variable {P : Program} {w : World} {A : Around} {E : Value → Shared → Prop} {s : Shared}
/-- an empty set, as it is made -/
abbrev set0 (w : World) : Obj := { cls := .type "set", dict := none, data := .set #[] 0 (.fresh 0 0 (!w.params.followText "set-order")) }
abbrev goSet (P : Program) (w : World) (A : Around) (E : Value → Shared → Prop) (Q : Value → Shared → Prop) (n : Nat) : Result → Shared → Prop := wants (fun r s₂ => r = .none ∧ Q (.ref n) s₂) E
/-- set(x), by what its init does -/
theorem call_set_x {x : Value} {Q : Value → Shared → Prop} (h : wpAny (model P w) A.in1.in1 (Builtin.«set.__init__» ⟨[.ref s.heap.objs.size, x], []⟩)
      (fun fin t => match fin with | .done f => goSet P w A E Q s.heap.objs.size (.ok f) t | .again c => c.quiet = true ∧ codeAny (model P w) A.in1 c (goSet P w A E Q s.heap.objs.size) t)
      (fun e t => goSet P w A E Q s.heap.objs.size (.error e) t) { s with heap := s.heap.push (set0 w) }) : wpAny (model P w) A (call (.type "set") [x]) Q E s := by
  have T0 := PySem.F.called_set
  obtain ⟨c, tl, m0⟩ := T0.mro
  have m1 := T0.made
  have m2 := T0.sub
  have m3 := T0.notType
  have m4 := T0.canCreate
  have m5 := PySem.F.typeCall_set_1 x
  refine wpAny_call (codeAny_of_tree (show wpAny _ _ (callAny (.type "set") _) _ _ _ from wpAny_pure ⟨Code.quiet_builtin _ (by decide +kernel), codeAny_builtin PySem.F.entry_type_call ?_⟩))
  rw [Around.under_plain (weight_type_call_type "set" [x] []) rfl]
  repeat (any_goals (first | assumption | wp_step))
  refine codeAny_mono (code_set_led1 x (E := E) (Q₁ := fun v t => v = .ref s.heap.objs.size ∧ t = { s with heap := s.heap.push (set0 w) }) ⟨rfl, rfl⟩) fun r t hr => ?_
  match r, hr with
  | .error e, hr => exact hr
  | .ok (.ret v), hr =>
    obtain ⟨rfl, rfl⟩ := hr
    have hT : Shared.TypeIs { s with heap := s.heap.push (set0 w) } (.ref s.heap.objs.size) "set" := ⟨_, Heap.get?_push_size _ rfl, rfl⟩
    have m6 := T0.init.lookup
    have m7 := T0.init.bind (.ref s.heap.objs.size)
    repeat (any_goals (first | assumption | wp_step))
    refine codeAny_mono (codeAny_call_builtin (R := goSet P w A E Q s.heap.objs.size) T0.init.plain PySem.F.entry_set_init (check_set_init_1 hT h)) fun r t hr => ?_
    match r, hr with
    | .error e, hr => exact hr
    | .ok (.ret v), hr =>
      obtain ⟨rfl, hq⟩ := hr
      repeat (any_goals (first | assumption | wp_step))
end
end Am
namespace Am
open PySem PySem.Spec PyProof.Rows L2
section
variable {P : Program} {w : World} {A : Around} {E : Value → Shared → Prop} {s : Shared}
/-- set(a list of whole numbers) -/
theorem call_set_ls {l : Addr} {xs : Array Value} {ns : List Int} {Q : Value → Shared → Prop} (hd : A.handled = none) (hl : s.heap.IsList l xs) (hi : IntsAre xs.toList ns) (hb : ns.length + 1 < scanBound)
    (h : ∀ (g : Heap) (tk c : Nat), SetR w g s.heap.objs.size (fun j => decide (j ∈ ns)) c → c ≤ ns.length → (∀ b o, s.heap.get? b = some o → g.get? b = some o) → Q (.ref s.heap.objs.size) { s with heap := g, toks := tk }) :
    wpAny (model P w) A (call (.type "set") [.ref l]) Q E s := by
  refine call_set_x ?_
  have sz : xs.size = ns.length := by
    have := IntsAre.length hi
    rwa [Array.length_toList] at this
  have val : ∀ (i : Nat) (v : Value), xs[i]? = some v → ∃ k t, ns[i]? = some k ∧ v = .int k t := fun i v hv => by
    have li : i < ns.length := by rw [← sz]; exact (Array.getElem?_eq_some_iff.mp hv).1
    obtain ⟨t, e⟩ := PyProof.Rows.IntsAre.int_at hi i v (by rw [Array.getElem?_toList]; exact hv)
    exact ⟨ns[i], t, List.getElem?_eq_getElem li, by rw [e, List.getD_eq_getElem?_getD, List.getElem?_eq_getElem li]; rfl⟩
  obtain ⟨⟨oc, od, odat, osl⟩, gl, ecl, n, edat⟩ := hl
  simp only at ecl edat
  subst ecl
  subst edat
  have lS := Heap.lt_size gl
  have gS : (s.heap.push (set0 w)).get? s.heap.objs.size = some (set0 w) := Heap.get?_push_size _ rfl
  have gl1 := Heap.get?_push_of_some (set0 w) gl
  have L1 : (s.heap.push (set0 w)).IsList l xs := ⟨_, gl1, rfl, n, rfl⟩
  have f1 := PySem.F.sub_list_set
  have f2 := PySem.F.sub_list_frozenset
  have f3 : (Value.type "list" == Value.type "dict") = false := by decide
  have zz : (s.heap.push (set0 w)).objs.size = s.heap.objs.size + 1 := Heap.size_push ..
  unfold Builtin.«set.__init__» noKeywords Builtin.Frozenset.updateFrom
  generalize eI : pyIter = PI
  wp_walk
  subst eI
  refine wpAny_pyIter_list L1 (wpAny_bind (wpAny_runValue ?_))
  have hd3 : A.in1.in1.in1.handled = none := by simp [hd]
  refine set_update_ints ((Walks.list hd3 _ l (Nat.ne_of_lt (by rw [zz]; exact Nat.lt_succ_of_lt lS)) xs).toS) s.heap.objs.size (by simp only [List.mem_cons, List.not_mem_nil, or_false, not_or]; exact ⟨Nat.ne_of_lt (by rw [zz]; exact Nat.lt_succ_self _), Nat.ne_of_gt lS⟩) ns sz hb val (xs.size - 0) 0 _ (by omega) (Nat.zero_le _) ⟨⟨_, Heap.get?_push_size _ rfl, rfl, rfl⟩, L1.push _⟩
    ⟨0, Nat.le_refl 0, setR_new_at (Heap.get?_push_of_some _ gS)⟩ fun t c hm hc hR => ?_
  obtain ⟨g, g2, dr, tk, os⟩ := t
  have e1 : g2 = s.gens := hm.gens
  have e2 : dr = s.drawn := hm.drawn
  have e3 : os = s.os := hm.os
  subst e1
  subst e2
  subst e3
  rw [sz] at hc
  refine wpAny_pure (wpAny_pure ⟨rfl, h g tk c hR hc fun b o eb => ?_⟩)
  have lb := Heap.lt_size eb
  exact hm.heap b o (by simp only [List.mem_cons, List.not_mem_nil, or_false, not_or]; exact ⟨Nat.ne_of_lt lb, Nat.ne_of_lt (by rw [zz]; exact Nat.lt_succ_of_lt lb)⟩) (Heap.get?_push_of_some _ (Heap.get?_push_of_some _ eb))
end
end Am
namespace Am
open PySem PySem.Spec PyProof.Rows L2
section
variable {P : Program} {w : World} {A : Around} {E : Value → Shared → Prop} {s : Shared}
/-- sorted of a set of whole numbers, however many -/
theorem sorted_set_any {a : Addr} {S : Int → Bool} {n : Nat} {Q : Value → Shared → Prop} (R : SetR w s.heap a S n) (hd : A.handled = none) (hn : n ≤ 900)
    (hQ : ∀ (t : Shared) (p : Addr) (out : List Value) (c : Nat) (ns : List Int), (∀ b o, s.heap.get? b = some o → t.heap.get? b = some o) → t.gens = s.gens → t.os = s.os → s.heap.objs.size ≤ p →
      t.heap.get? p = some (seqObj "list" out.toArray c) → IntsAre out ns → ns.Pairwise (· < ·) → (∀ k, k ∈ ns ↔ S k = true) → ns.length ≤ n → Q (.ref p) t) :
    wpAny (model P w) A (call (.builtin "sorted") [.ref a]) Q E s := by
  obtain ⟨o, es, ep, t, ho, ex, da, ge, nd, hm, hb, hf, en, hr, hl⟩ := R
  refine Calls.call_function_entry kind_sorted plain_sorted entry_sorted (args_sorted1 _) (show wpAny _ _ (Builtin.«sorted» _) _ _ _ from ?_)
  unfold Builtin.«sorted»
  refine wpAny_bind (m := checkCount "sorted" 1 1 _) (wpAny_pure (wpAny_bind (collect_set (A := A.in1) hd ⟨o, ho, ex.1, da⟩ hf hb hr hl fun s1 vs k1 z1 g1 o1 pm => ?_)))
  have lv : vs.length = n := by rw [pm.length_eq, List.length_map, Array.length_toList]; exact en
  have hv : ∀ v ∈ vs, ∃ i tk, v = Value.int i tk := fun v hv => by
    obtain ⟨e, he, q⟩ := List.mem_map.mp (pm.mem_iff.mp hv)
    obtain ⟨k, tk, h1, _⟩ := ge e he
    exact ⟨k, tk, q.symm.trans h1⟩
  have hI := SrtO.ints_iv hv
  have pk : (vs.map SrtO.iv).Perm (es.toList.map keyOf) := by
    have q := pm.map SrtO.iv
    rw [List.map_map] at q
    exact q
  refine wpAny_bind (wpAny_newList ?_ (by rw [lv, sizeLine_eq]; omega))
  have gL : (s1.heap.push (seqObj "list" vs.toArray 0)).get? s1.heap.objs.size = some (seqObj "list" vs.toArray 0) := Heap.get?_push_size _ rfl
  refine wpAny_bind (wpAny_holding (wpAny_call_entry slot_list_sort ⟨_, gL, rfl⟩ entry_list_sort (SrtO.list_sort_ord SrtO.swo_int gL (by rw [lv, sizeLine_eq]; omega) (fun h2 => SrtO.ints_sortable hI h2) fun out h1 h2 => ⟨_, rfl, ?_⟩) (args_list_sort _)))
  obtain ⟨i1, i2, i3⟩ := SrtO.ints_out hI h1 h2
  obtain ⟨c, gc⟩ := sortedHeap_at (vs := vs) (out := out.toArray) gL
  have pn := i2.trans pk
  refine wpAny_pure ⟨_, rfl, hQ _ s1.heap.objs.size out c (out.map SrtO.iv) (fun b u e => ?_) g1 o1 z1 gc i1 (lt_of_le_nodup _ i3 (pn.nodup_iff.mpr nd)) (fun k => by rw [pn.mem_iff, ← hm k]) ?_⟩
  · have q := k1 b u e
    have lq := Heap.lt_size q
    exact (sortedHeap_old (Nat.ne_of_lt lq) (by rw [size_push']; exact Nat.lt_succ_of_lt lq)).trans (Heap.get?_push_of_some _ q)
  · rw [pn.length_eq, List.length_map, Array.length_toList, en]
    exact Nat.le_refl _
end
end Am
namespace Am
open PySem PySem.W PySem.F L2
section
variable [CN]
variable {X : Cx} {rx : RX} {c : Am.Ctx} {W : WX} {e : Expr} {p1 p2 p3 pos : Pos} {ms : MEs}
theorem s_sset (hc : X.calm = true) (hm : X.mg "sorted" = none) (hm2 : X.mg "set" = none) (ha : PA X [e] (tEl X.K rx c W ms)) (hg : Gl X "sorted" := by rfl) (hg2 : Gl X "set" := by rfl)
    (he : starEach [e] X.env = (false, eval e X.env) :: starEach [] X.env := by rfl) :
    PE X (.Call (.Name "sorted" p1) [.Call (.Name "set" p2) [e] [] p3] [] pos) (tE X.K rx c W (.bi .sortSet ms)) := by
  refine PE.weak (t := tCB (rBi X.K c .sortSet) (tEl X.K rx c W ms)) ⟨fun pins s σ H Q I h => ?_⟩ fun σ H Q h => bi_run h
  refine PyProof.Rows.Call_ (ld_blt I hg hm (show bootBuiltins "sorted" = some (.builtin "sorted") by rfl) (PyProof.Rows.callWith_builtin1 (PyProof.Rows.args_cons ?_ rfl) rfl rfl))
  refine PyProof.Rows.Call_ (ld_blt I hg2 hm2 PyProof.Rows.boot_set (PyProof.Rows.callWith_type1 (thn (ha.run p3 pins s σ H _ I h) fun us s1 ⟨vs, H1, I1, r1, q1⟩ => ?_) he rfl))
  obtain ⟨Z, ws, k, zt, rl, w, res⟩ := q1
  match ws, w, rl with
  | [v], w, rl =>
    obtain ⟨ds, ed, w⟩ := onO.el w
    obtain ⟨ns, en, hn, w⟩ := onO.el w
    obtain ⟨x, F, rfl, ra⟩ := rl.one'
    obtain ⟨a, zs, rfl, h1, h2⟩ := ra.list ed
    have := h2.ints en
    subst this
    obtain ⟨its, rv, hl, hz⟩ := I1.list h1
    rw [Vals.ref1 r1]
    refine call_set_ls (ns := ns) (I1.ok.hd hc) hl.isList (by simpa using rv.ints) (by unfold scanBound; omega) fun g tk n R hcn k0 => ?_
    refine PyProof.Rows.args_nil ?_
    refine sorted_set_any (s := { s1 with heap := g, toks := tk }) R (I1.ok.hd hc) (by omega) fun t p out c0 ms' kt g1 o1 hp gp hi pw mem ln => ?_
    have kk : ∀ b o, s1.heap.get? b = some o → t.heap.get? b = some o := fun b o eb => kt b o (k0 b o eb)
    have hn' : H1 p = none := I1.hok.fresh (Nat.le_trans (Nat.le_of_lt R.lt) hp)
    have hp1 : s1.heap.objs.size ≤ p := Nat.le_trans (Nat.le_of_lt R.lt) hp
    have hlen : (ms'.map V.int).length ≤ sizeLine := by rw [List.length_map, sizeLine_eq]; omega
    have hw := w ms' pw (fun y => by rw [mem, decide_eq_true_eq])
    have J : Inv X pins σ (upd H1 p (.lst (ms'.map V.int))) { s1 with heap := t.heap, gens := t.gens, drawn := t.drawn, toks := t.toks } :=
      I1.call (ch := []) (Un.laid kk hp1 hn') (I1.hok.laid kk hp1 ⟨hlen, out, c0, vals_of_ints hi, gp⟩) (by rw [g1]; exact I1.bare) (fun _ z => nomatch z)
    have et : t = { s1 with heap := t.heap, gens := t.gens, drawn := t.drawn, toks := t.toks } := by
      cases t
      cases s1
      cases o1
      rfl
    rw [et]
    exact ⟨.ref p, _, J, rfl, res.lst zt hw (RDs.int ms') hn'⟩
end
end Am

set_option maxHeartbeats 4000000
namespace Am
open PySem PySem.Spec PyProof.Rows L2
section
variable {P : Program} {w : World} {A : Around} {E : Value → Shared → Prop} {s : Shared}
def Cnt (c : Nat) (l : List Str) : Prop := c ≤ l.length ∧ (c = l.length ↔ l.Nodup)
theorem cnt_more {c : Nat} {l : List Str} {z : Str} (h : Cnt c l) : Cnt (if decide (z ∈ l) = true then c else c + 1) (l ++ [z]) := by
  obtain ⟨h1, h2⟩ := h
  have e : (l ++ [z]).Nodup ↔ l.Nodup ∧ z ∉ l := by
    rw [List.nodup_append]
    constructor
    · intro ⟨a, _, b⟩
      exact ⟨a, fun m => b z m z (by simp) rfl⟩
    · intro ⟨a, b⟩
      exact ⟨a, by simp, fun x hx y hy q => b (by rw [List.mem_singleton] at hy; rw [← hy, ← q]; exact hx)⟩
  refine ⟨?_, ?_⟩
  · rw [List.length_append, List.length_singleton]
    split <;> omega
  · rw [e, List.length_append, List.length_singleton, ← h2]
    by_cases m : z ∈ l
    · rw [decide_eq_true m, if_pos rfl]
      exact ⟨fun q => absurd h1 (by omega), fun q => absurd m q.2⟩
    · rw [decide_eq_false m, if_neg (by decide)]
      exact ⟨fun q => ⟨by omega, m⟩, fun q => by omega⟩
theorem strs_up {I : Addr} {fp wr : List Addr} {G : Array GenState → Array GenState → Prop} {n : Nat} {Pv : Nat → Value → Prop} {St : Nat → Shared → Prop} {R : Result → Shared → Prop}
    (W : WalksS P w A.in1 I fp wr G n Pv St) (Z : Addr) (hz : Z ∉ fp) (ts : List Str) (en : n = ts.length) (bd : ts.length + 1 < scanBound) (val : ∀ i v, Pv i v → ∃ y u, ts[i]? = some y ∧ v = .str y u) :
    ∀ (m i : Nat) (s : Shared), n - i = m → i ≤ n → St i s → (∃ c, Cnt c (ts.take i) ∧ s.heap.SetOf (PySem.strKind P w) Z (fun j => decide (j ∈ ts.take i)) c) →
      (∀ t c, Moved (Z :: wr) G s t → Cnt c ts → t.heap.SetOf (PySem.strKind P w) Z (fun j => decide (j ∈ ts)) c → R (.ok (.ret .none)) t) →
      codeAny (model P w) A (.builtin "set.update.loop" ⟨[.ref Z, .ref I], []⟩) R s := by
  have zw : Z ∉ wr := fun q => hz (W.sub _ q)
  have up : ∀ b ∈ wr, b ∈ Z :: wr := fun b q => List.mem_cons_of_mem _ q
  have mv : ∀ {h h' : Heap} {S : Str → Bool} {c : Nat}, (∀ o, h.get? Z = some o → h'.get? Z = some o) → h.SetOf (PySem.strKind P w) Z S c → h'.SetOf (PySem.strKind P w) Z S c := fun k q => by
    obtain ⟨o, es, ep, tb, ho, rest⟩ := q
    exact ⟨o, es, ep, tb, k o ho, rest⟩
  intro m
  induction m with
  | zero =>
    intro i s em hi st ⟨c, hc, hS⟩ fin
    obtain rfl : i = n := by omega
    have ei : ts.take i = ts := List.take_of_length_le (by omega)
    refine codeAny_builtin F.entry_set_update_loop ?_; rw [Around.under_plainId F.plain_set_update_loop _]
    show wpAny _ A.in1 (pyNext (.ref I) >>= fun _ => _) _ _ s
    refine wpAny_bind (W.done s _ _ st fun t mt => wpAny_pure (fin t c (mt.mono up) (by rw [ei] at hc; exact hc) (by rw [ei] at hS; exact mv (fun o => mt.heap Z o zw) hS)))
  | succ m ih =>
    intro i s em hi st ⟨c, hc, hS⟩ fin
    have li : i < n := by omega
    refine codeAny_builtin F.entry_set_update_loop ?_; rw [Around.under_plainId F.plain_set_update_loop _]
    show wpAny _ A.in1 (pyNext (.ref I) >>= fun _ => _) _ _ s
    refine wpAny_bind (W.item i s _ _ li st fun v t pv st' mt => ?_)
    obtain ⟨y, u, ey, rfl⟩ := val i v pv
    have hS1 := mv (fun o => mt.heap Z o zw) hS
    have et : ts.take (i + 1) = ts.take i ++ [y] := by rw [List.take_add_one, ey]; rfl
    have ll : (ts.take i).length ≤ ts.length := by rw [List.length_take]; omega
    show wpAny _ A.in1 (holding [Value.str y u] (setAdd Z (.str y u)) >>= fun _ => _) _ _ t
    refine wpAny_bind (wpAny_holding ?_); unfold setAdd; refine wpAny_holding (wpAny_bind ((PySem.strKind P w).pyHash (k := y) (strKind_is _ _ _ _) ?_))
    refine wpAny_setAddHashed_of (knd := PySem.strKind P w) (s := { t with toks := t.toks + 1 }) (strKind_is _ _ _ _) rfl hS1 (by have := hc.1; omega) fun h' sb hS2 => ?_
    have hS3 := SetOf_congr (S' := fun j => decide (j ∈ ts.take (i + 1))) hS2 (fun j => by rw [et]; simp [List.mem_append]) rfl
    have oth : ∀ b o, b ≠ Z → t.heap.get? b = some o → h'.get? b = some o := fun b o ne e => (sb.2 b ne).trans e
    refine wpAny_pure ⟨plainId_quiet F.plain_set_update_loop _, ih (i + 1) _ (by omega) li (W.frame _ t _ _ st' (Nat.le_succ _) fun b hb o e => oth b o (fun q => hz (q ▸ hb)) e) ⟨_, by rw [et]; exact cnt_more hc, hS3⟩ fun t2 c2 m2 h2 S2 => ?_⟩
    exact fin t2 c2 (Moved.trans W.gtrans ((mt.mono up).then_heap (Nat.le_succ _) fun b o hb e => oth b o (fun q => hb (by rw [q]; exact List.mem_cons_self)) e) m2) h2 S2
theorem set0_of {h : Heap} {a : Addr} (ho : h.get? a = some (set0 w)) : h.SetOf (PySem.strKind P w) a (fun j => decide (j ∈ ([] : List Str))) 0 := by
  refine ⟨_, #[], 0, _, ho, ⟨rfl, rfl, rfl⟩, rfl, ?_, ?_, ?_, ?_, ?_⟩
  all_goals first | rfl | decide | (intro e he; cases he; done) | (simp; done)
end
end Am
namespace Am
open PySem PySem.Spec PyProof.Rows L2
section
variable {P : Program} {w : World} {A : Around} {E : Value → Shared → Prop} {s : Shared}
/-- set(a list or a tuple of texts) -/
theorem call_set_ss {l : Addr} {us : List Value} {ts : List Str} {Q : Value → Shared → Prop} (hd : A.handled = none) (hl : s.heap.IsList l us.toArray ∨ s.heap.IsTuple l us.toArray) (hi : StrsAre us ts) (el : us.length = ts.length) (hb : ts.length + 1 < scanBound)
    (h : ∀ (g : Heap) (tk c : Nat), g.SetOf (PySem.strKind P w) s.heap.objs.size (fun j => decide (j ∈ ts)) c → Cnt c ts → (∀ b o, s.heap.get? b = some o → g.get? b = some o) → Q (.ref s.heap.objs.size) { s with heap := g, toks := tk }) :
    wpAny (model P w) A (call (.type "set") [.ref l]) Q E s := by
  refine call_set_x ?_
  have sz : us.toArray.size = ts.length := by rw [List.size_toArray, el]
  have val : ∀ (i : Nat) (v : Value), us.toArray[i]? = some v → ∃ y u, ts[i]? = some y ∧ v = .str y u := fun i v hv => by
    have li : i < ts.length := by rw [← sz]; exact (Array.getElem?_eq_some_iff.mp hv).1
    obtain ⟨t, e⟩ := SS.strs_at hi i v (by simpa using hv)
    exact ⟨ts[i], t, List.getElem?_eq_getElem li, by rw [e, List.getD_eq_getElem?_getD, List.getElem?_eq_getElem li]; rfl⟩
  have gS : (s.heap.push (set0 w)).get? s.heap.objs.size = some (set0 w) := Heap.get?_push_size _ rfl
  have zz : (s.heap.push (set0 w)).objs.size = s.heap.objs.size + 1 := Heap.size_push ..
  have hd3 : A.in1.in1.in1.handled = none := by simp [hd]
  have go : ∀ (t : Shared) (c : Nat) (oI : Obj), (∀ b o, b ∉ (s.heap.objs.size :: [(s.heap.push (set0 w)).objs.size]) → ((s.heap.push (set0 w)).push oI).get? b = some o → t.heap.get? b = some o) → t.gens = s.gens → t.drawn = s.drawn → t.os = s.os → Cnt c ts →
      t.heap.SetOf (PySem.strKind P w) s.heap.objs.size (fun j => decide (j ∈ ts)) c → Q (.ref s.heap.objs.size) t := fun t c oI mh e1 e2 e3 hc hR => by
    obtain ⟨g, g2, dr, tk, os⟩ := t
    subst e1
    subst e2
    subst e3
    refine h g tk c hR hc fun b o eb => ?_
    have lb := Heap.lt_size eb
    exact mh b o (by simp only [List.mem_cons, List.not_mem_nil, or_false, not_or]; exact ⟨Nat.ne_of_lt lb, Nat.ne_of_lt (by rw [zz]; exact Nat.lt_succ_of_lt lb)⟩) (Heap.get?_push_of_some _ (Heap.get?_push_of_some _ eb))
  have c0 : Cnt 0 (ts.take 0) := ⟨Nat.le_refl 0, by simp⟩
  rcases hl with hl | hl
  · obtain ⟨⟨oc, od, odat, osl⟩, gl, ecl, n, edat⟩ := hl
    simp only at ecl edat
    subst ecl
    subst edat
    have lS := Heap.lt_size gl
    have L1 : (s.heap.push (set0 w)).IsList l us.toArray := ⟨_, Heap.get?_push_of_some (set0 w) gl, rfl, n, rfl⟩
    have f1 := PySem.F.sub_list_set
    have f2 := PySem.F.sub_list_frozenset
    have f3 : (Value.type "list" == Value.type "dict") = false := by decide
    have gl1 := Heap.get?_push_of_some (set0 w) gl
    unfold Builtin.«set.__init__» noKeywords Builtin.Frozenset.updateFrom
    generalize eI : pyIter = PI
    wp_walk
    subst eI
    refine wpAny_pyIter_list L1 (wpAny_bind (wpAny_runValue ?_))
    refine strs_up ((Walks.list hd3 _ l (Nat.ne_of_lt (by rw [zz]; exact Nat.lt_succ_of_lt lS)) us.toArray).toS) s.heap.objs.size (by simp only [List.mem_cons, List.not_mem_nil, or_false, not_or]; exact ⟨Nat.ne_of_lt (by rw [zz]; exact Nat.lt_succ_self _), Nat.ne_of_gt lS⟩) ts sz hb val (us.toArray.size - 0) 0 _ (by omega) (Nat.zero_le _) ⟨⟨_, Heap.get?_push_size _ rfl, rfl, rfl⟩, L1.push _⟩
      ⟨0, c0, set0_of (Heap.get?_push_of_some _ gS)⟩ fun t c hm hc hR => ?_
    exact wpAny_pure (wpAny_pure ⟨rfl, go t c _ (fun b o nb e => hm.heap b o nb e) hm.gens hm.drawn hm.os hc hR⟩)
  · obtain ⟨⟨oc, od, odat, osl⟩, gl, ecl, n, edat⟩ := hl
    simp only at ecl edat
    subst ecl
    subst edat
    have lS := Heap.lt_size gl
    have L1 : (s.heap.push (set0 w)).IsTuple l us.toArray := ⟨_, Heap.get?_push_of_some (set0 w) gl, rfl, n, rfl⟩
    have f1 := PySem.F.sub_tuple_set
    have f2 := PySem.F.sub_tuple_frozenset
    have f3 : (Value.type "tuple" == Value.type "dict") = false := by decide
    have gl1 := Heap.get?_push_of_some (set0 w) gl
    unfold Builtin.«set.__init__» noKeywords Builtin.Frozenset.updateFrom
    generalize eI : pyIter = PI
    wp_walk
    subst eI
    refine wpAny_pyIter_tuple L1 (wpAny_bind (wpAny_runValue ?_))
    refine strs_up ((Walks.tuple hd3 _ l (Nat.ne_of_lt (by rw [zz]; exact Nat.lt_succ_of_lt lS)) us.toArray).toS) s.heap.objs.size (by simp only [List.mem_cons, List.not_mem_nil, or_false, not_or]; exact ⟨Nat.ne_of_lt (by rw [zz]; exact Nat.lt_succ_self _), Nat.ne_of_gt lS⟩) ts sz hb val (us.toArray.size - 0) 0 _ (by omega) (Nat.zero_le _) ⟨⟨_, Heap.get?_push_size _ rfl, rfl, rfl⟩, L1.push _⟩
      ⟨0, c0, set0_of (Heap.get?_push_of_some _ gS)⟩ fun t c hm hc hR => ?_
    exact wpAny_pure (wpAny_pure ⟨rfl, go t c _ (fun b o nb e => hm.heap b o nb e) hm.gens hm.drawn hm.os hc hR⟩)
end
end Am
namespace Am
open PySem PySem.W PySem.F L2
section
variable [CN]
variable {X : Cx} {rx : RX} {c : Am.Ctx} {W : WX} {e : Expr} {p1 p2 p3 pos : Pos} {ms : MEs}
theorem strs_are : ∀ {ys : List Str} {us : List Value}, Vals (ys.map V.str) us → PyProof.Rows.StrsAre us ys
  | [], _, .nil => .nil
  | y :: _, _, .cons r q => by
    obtain ⟨k, rfl⟩ := r
    exact .cons y k (strs_are q)
theorem Cnt.map {n : Nat} {ss : List T} (h : Cnt n (ss.map sT)) : n ≤ ss.length ∧ (n = ss.length ↔ ss.Nodup) := by
  obtain ⟨h1, h2⟩ := h
  rw [List.length_map] at h1 h2
  refine ⟨h1, h2.trans ?_⟩
  have inj : ∀ a b : T, sT a = sT b → a = b := fun a b q => by
    have := congrArg (fun z : Str => z.cps.toList) q
    simpa [sT] using this
  constructor
  · intro q
    have := List.pairwise_map.mp q
    exact this.imp fun {a b} ne q => ne (by rw [q])
  · intro q
    exact List.pairwise_map.mpr (q.imp fun {a b} ne q => ne (inj _ _ q))
theorem s_lset (hc : X.calm = true) (hm : X.mg "len" = none) (hm2 : X.mg "set" = none) (ha : PA X [e] (tEl X.K rx c W ms)) (hg : Gl X "len" := by rfl) (hg2 : Gl X "set" := by rfl)
    (he : starEach [e] X.env = (false, eval e X.env) :: starEach [] X.env := by rfl) :
    PE X (.Call (.Name "len" p1) [.Call (.Name "set" p2) [e] [] p3] [] pos) (tE X.K rx c W (.bi .lenSet ms)) := by
  refine PE.weak (t := tCB (rBi X.K c .lenSet) (tEl X.K rx c W ms)) ⟨fun pins s σ H Q I h => ?_⟩ fun σ H Q h => bi_run h
  refine PyProof.Rows.Call_ (ld_blt I hg hm (show bootBuiltins "len" = some (.builtin "len") by rfl) (PyProof.Rows.callWith_builtin1 (PyProof.Rows.args_cons ?_ rfl) rfl rfl))
  refine PyProof.Rows.Call_ (ld_blt I hg2 hm2 PyProof.Rows.boot_set (PyProof.Rows.callWith_type1 (thn (ha.run p3 pins s σ H _ I h) fun us s1 ⟨vs, H1, I1, r1, q1⟩ => ?_) he rfl))
  obtain ⟨Z, ws, k, zt, rl, w, res⟩ := q1
  match ws, w, rl with
  | [v], w, rl =>
    obtain ⟨ds, ed, w⟩ := onO.el w
    obtain ⟨ss, en, hn, w⟩ := onO.el w
    obtain ⟨x, F, rfl, ra⟩ := rl.one'
    obtain ⟨a, zs, rfl, h1, h2⟩ := ra.seq ed
    have := h2.strs en
    subst this
    rw [Vals.ref1 r1]
    have fin : ∀ its : List Value, Vals ((ss.map sT).map V.str) its → (s1.heap.IsList a its.toArray ∨ s1.heap.IsTuple a its.toArray) → wpAny (model X.prog X.w) X.A (call (.type "set") [.ref a]) (fun v s2 => wpAny (model X.prog X.w) X.A (spliced (backTo pos (starEach [] X.env))) (fun vs s₂ => wpAny (model X.prog X.w) X.A (call (.builtin "len") (v :: vs)) (EP X pins σ Q) X.xe s₂) X.xe s2) X.xe s1 := fun its rv hl => by
      have el : its.length = (ss.map sT).length := by rw [← rv.length, List.length_map]
      refine call_set_ss (I1.ok.hd hc) hl (strs_are rv) el (by rw [List.length_map]; unfold scanBound; omega) fun g tk n R hcn k0 => ?_
      refine PyProof.Rows.args_nil ?_
      obtain ⟨o, es, ep, t, ho, hex, hdt, _, _, _, hf, hsz⟩ := R
      have cn := hcn.map
      have I2 : Inv X pins σ H1 { s1 with heap := g, toks := tk } := I1.kept fun b o e => k0 b o e
      refine call_len_set ho hex hdt hf (by rw [hsz]; omega) ⟨.int n, H1, I2.tok _, ⟨_, by rw [hsz]⟩, res.d (w n cn.1 cn.2) rfl⟩
    rcases h1 with h1 | h1
    · obtain ⟨its, rv, hl, hz⟩ := I1.list h1
      exact fin its rv (.inl hl.isList)
    · obtain ⟨its, rv, hl, hz⟩ := I1.tuple h1.sq
      exact fin its rv (.inr hl)
end
end Am

set_option maxHeartbeats 4000000
namespace Am
open PySem PySem.W PySem.F L2
theorem rise_pw : ∀ (p : Str) (l : List Str), PyProof.Rows.risingS p l = true → (p :: l).Pairwise (fun a b => a.cps.toList ≤ b.cps.toList)
  | p, [], _ => by simp
  | p, x :: r, h => by
    have h : (!PySem.Spec.ltCps x.cps.toList p.cps.toList && PyProof.Rows.risingS x r) = true := h
    rw [Bool.and_eq_true, PyProof.Rows.ltCps_eq] at h
    have ih := rise_pw x r h.2
    have px : p.cps.toList ≤ x.cps.toList := by
      have := h.1
      simpa using this
    refine List.pairwise_cons.mpr ⟨fun y hy => ?_, ih⟩
    rcases List.mem_cons.mp hy with rfl | hy
    · exact px
    · exact List.le_trans px ((List.pairwise_cons.mp ih).1 y hy)
theorem sortS_pw : ∀ {l : List Str}, PyProof.Rows.sortedS l = true → l.Pairwise (fun a b => a.cps.toList ≤ b.cps.toList)
  | [], _ => by simp
  | x :: r, h => rise_pw x r h
/-- what comes out, as data -/
theorem out_K {ns : List T} {ys : List Str} (p : ys.Perm (ns.map sT)) (s : PyProof.Rows.sortedS ys = true) : ∃ ms : List T, ys = ms.map sT ∧ (ms.map D.str).Perm (ns.map .str) ∧ (ms.map D.str).Pairwise leD := by
  have e : ∀ l : List Str, (l.map fun y => y.cps.toList).map sT = l := fun l => by
    rw [List.map_map]
    exact List.map_id'' (fun y => rfl) l
  have e2 : ∀ l : List T, (l.map sT).map (fun y => y.cps.toList) = l := fun l => by
    rw [List.map_map]
    exact List.map_id'' (fun y => by show (sT y).cps.toList = y; unfold sT; simp) l
  refine ⟨ys.map fun y => y.cps.toList, (e ys).symm, ?_, ?_⟩
  · have := (p.map fun y => y.cps.toList).map D.str
    rwa [e2] at this
  · refine List.pairwise_map.mpr (List.pairwise_map.mpr ((sortS_pw s).imp fun {a b} h => ?_))
    show ltD (.str b.cps.toList) (.str a.cps.toList) = false
    show decide (b.cps.toList < a.cps.toList) = false
    exact decide_eq_false h
variable [CN]
section
variable {K : PySem.W.Frag} {H : Hp} {Z : ZP}
theorem rds_txt : ∀ ms : List T, RDs K H Z (ms.map D.str) ((ms.map sT).map V.str)
  | [] => rfl
  | m :: ms => ⟨_, _, rfl, rfl, rds_txt ms⟩
theorem txt_rds : ∀ {ds : List D} {ws : List V} {ns : List T}, RDs K H Z ds ws → strs? ds = some ns → ws = (ns.map sT).map V.str := fun h e => h.strs e
theorem keys_rel {kvs : List (Am.Key × D)} : ∀ {ws : List (L2.Key × V)} {ns : List T}, RK K H Z kvs ws → strs? (keysD kvs) = some ns → ws.map (·.1) = (ns.map sT).map Sum.inr := by
  induction kvs with
  | nil =>
    intro ws ns h e
    cases h
    cases e
    rfl
  | cons kd r ih =>
    intro ws ns h e
    obtain ⟨k, d⟩ := kd
    obtain ⟨x, q, rfl, h1, h2⟩ := h
    cases k with
    | inl i => cases e
    | inr t =>
      have e : (strs? (keysD r)).map (t :: ·) = some ns := e
      obtain ⟨l, e1, rfl⟩ := Option.map_eq_some_iff.mp e
      show _ :: q.map (·.1) = _
      rw [ih h2 e1]
      rfl
end
section
variable {X : Cx} {c : Am.Ctx}
/-- sorted of a tuple of texts -/
theorem call_sortedTup (hu : X.A.units + 190 < cLine) : CallR X (.builtin "sorted") (fun xs H Q => ∃ (a : Addr) (ks : List Str), xs = [.ref a] ∧ SqT X.K H a (ks.map V.str) ∧ ks.length < 64 ∧
    ∀ ys p, ys.Perm ks → PyProof.Rows.sortedS ys = true → H p = none → Q (.ref p) (upd H p (.lst (ys.map V.str)))) := by
  intro pins s σ H xs us Q I r ⟨a, ks, ex, hq, h64, fin⟩
  subst ex
  rw [Vals.ref1 r]
  obtain ⟨its, rv, pl, hz⟩ := I.tuple hq
  have hS : PyProof.Rows.StrsAre its ks := strs_are rv
  have el : its.length = ks.length := by rw [← rv.length, List.length_map]
  obtain ⟨o, ho, hcl, n, hdat⟩ := pl
  have sz : its.toArray.size = ks.length := by rw [List.size_toArray, el]
  refine Calls.call_function_entry PyProof.Rows.kind_sorted PyProof.Rows.plain_sorted PyProof.Rows.entry_sorted (PyProof.Rows.args_sorted1 _) (show wpAny _ _ (Builtin.«sorted» _) _ _ _ from ?_)
  unfold Builtin.«sorted»
  refine wpAny_bind (m := checkCount "sorted" 1 1 _) (wpAny_pure (wpAny_bind (wpAny_collect_seq a (.inr rfl) ho hcl hdat (fun h' hk => ?_) (by rw [sz, sizeLine_eq]; omega))))
  rw [show its.toArray.toList = its from rfl]
  have I1 : Inv X pins σ H { s with heap := h' } := I.kept (t' := s.toks) hk
  refine wpAny_bind (wpAny_newList ?_ (by rw [el, sizeLine_eq]; omega))
  have gL : (h'.push (PyProof.Rows.seqObj "list" its.toArray 0)).get? h'.objs.size = some (PyProof.Rows.seqObj "list" its.toArray 0) := Heap.get?_push_size _ rfl
  refine wpAny_bind (wpAny_holding (wpAny_call_entry PyProof.Rows.slot_list_sort ⟨_, gL, rfl⟩ PyProof.Rows.entry_list_sort (PyProof.Rows.list_sort_treeK PyProof.Rows.strKind_oneLt (s := { s with heap := h'.push (PyProof.Rows.seqObj "list" its.toArray 0) }) gL hS.keysOf (fun v w r e => PyProof.Rows.keyKind_strs (by rw [← e]; exact hS)) (by rw [el]; exact h64) fun st hp hs => ⟨_, rfl, ?_⟩) (PyProof.Rows.args_list_sort _)))
  obtain ⟨ys, g1, g2, g3⟩ := PyProof.Rows.sorted_out_str hS hp hs
  obtain ⟨ep, he⟩ := PyProof.Rows.sortedHeap_at (vs := its) (out := (PyProof.Rows.arrOf st).map (·.2)) gL
  have hlen : (ys.map V.str).length ≤ sizeLine := by rw [List.length_map, g2.length_eq, sizeLine_eq]; omega
  refine wpAny_pure ⟨_, rfl, .ref h'.objs.size, upd H h'.objs.size (.lst (ys.map V.str)), I1.laid (t' := s.toks) (fun b u e => ?_) (Nat.le_refl _) ⟨hlen, _, ep, vals_of_strs g1, by rw [Array.toArray_toList]; exact he⟩, rfl, fin ys _ g2 g3 (I1.hok.fresh (Nat.le_refl _))⟩
  have lb := Heap.lt_size e
  exact (PyProof.Rows.sortedHeap_old (Nat.ne_of_lt lb) (by rw [PyProof.Rows.size_push']; exact Nat.lt_succ_of_lt lb)).trans (Heap.get?_push_of_some _ e)
theorem cr_sortK (hc : X.calm = true) (hu : X.A.units + 190 < cLine) : CallR X (.builtin "sorted") (rBi X.K c .sortK) := fun pins s σ H xs us Q I r ⟨Z, vs, k, zt, rl, w, res⟩ => by
  match vs, w, rl with
  | [v], w, rl =>
    obtain ⟨ns, en, hn, w⟩ := onO.el w
    obtain ⟨x, F, rfl, ra⟩ := rl.one'
    have fin : ∀ (ys : List Str) (p : Addr), ys.Perm (ns.map sT) → PyProof.Rows.sortedS ys = true → H p = none → Q (.ref p) (upd H p (.lst (ys.map V.str))) := fun ys p hp hs hf => by
      obtain ⟨ms, rfl, h1, h2⟩ := out_K hp hs
      exact res.lst zt (w _ h1 h2) (rds_txt ms) hf
    have dk : ∀ kvs, dict? v = some kvs → strs? (keysD kvs) = some ns → wpAny (model X.prog X.w) X.A (call (.builtin "sorted") us) (EP X pins σ Q) X.xe s := fun kvs ed en => by
      obtain ⟨a, ws, rfl, h1, h2⟩ := ra.dict ed
      exact call_sortedD hc pins s σ H _ us Q I r ⟨a, ws, ns.map sT, rfl, h1, keys_rel h2 en, by rw [List.length_map]; exact hn, fun ys p => fin ys p⟩
    have dl : ∀ ds, list? v = some ds → strs? ds = some ns → wpAny (model X.prog X.w) X.A (call (.builtin "sorted") us) (EP X pins σ Q) X.xe s := fun ds ed en => by
      obtain ⟨a, ws, rfl, h1, h2⟩ := ra.list ed
      have := h2.strs en
      subst this
      exact cr_sortedS pins s σ H _ us Q I r ⟨a, ns.map sT, rfl, h1, by rw [List.length_map]; exact hn, fun ys p => fin ys p⟩
    cases v with
    | p d =>
      cases d with
      | tup ds =>
        obtain ⟨a, ws, rfl, h1, h2⟩ := ra.1
        have := h2.strs en
        subst this
        exact call_sortedTup hu pins s σ H _ us Q I r ⟨a, ns.map sT, rfl, h1.sq, by rw [List.length_map]; exact hn, fun ys p => fin ys p⟩
      | lst ds => exact dl ds rfl en
      | dct kvs => exact dk kvs rfl en
      | _ => cases en
    | ol ds => exact dl ds rfl en
    | ll a ds => exact dl ds rfl en
    | od kvs => exact dk kvs rfl en
    | ld a kvs => exact dk kvs rfl en
    | _ => cases en
end
end Am

set_option maxHeartbeats 4000000
namespace Am
open PySem PySem.Spec PyProof.Rows L2
variable [CN]
section
variable {X : Cx} {c : Am.Ctx}
theorem cr_sumT (hc : X.calm = true) : CallR X (.builtin "sum") (rBi X.K c .sumT) := fun pins s σ H xs us Q I r ⟨Z, vs, k, zt, rl, w, res⟩ => by
  match vs, w, rl with
  | [v], w, rl =>
    obtain ⟨ds, e, w⟩ := onO.el w
    obtain ⟨ns, en, w⟩ := onO.el w
    obtain ⟨x, F, rfl, ra⟩ := rl.one'
    obtain ⟨a, ws, rfl, h1, h2⟩ := ra.seq e
    have := h2.ints en
    subst this
    rcases h1 with h1 | h1
    · exact L2.cr_sum hc pins s σ H _ us Q I r ⟨a, ns, rfl, h1, res.d w rfl⟩
    · obtain ⟨its, rv, hl, _⟩ := I.tuple h1.sq
      rw [Vals.ref1 r]
      have hi := rv.ints
      obtain ⟨zs, ez⟩ := hi.allInts.items
      have hn : numsOf (intItems zs).toList = ns := by rw [← ez]; exact hi.numsOf
      rw [nums_intItems] at hn
      rw [ez] at hl
      refine PySem.W.ktm_sumG (I.ok.hd hc) hl fun h' tk t' hk => ?_
      refine ⟨.int ns.sum, H, I.kept hk, ⟨t', ?_⟩, res.d w rfl⟩
      rw [preSum_eq, List.take_of_length_le (by simp), hn]
end
section
variable {X : Cx} {rx : RX} {c : Am.Ctx} {W : WX} {a b e : Expr} {pos : Pos} {ma mb me : ME} {sg : List Bool}
theorem InS.writeL' {σ : L2.St} {H : Hp} {Z : ZP} {F : List Addr} {α : Sl} {N : Am.Ends} {X' : XP} {DD : L2.Ends} (I : InS X.K rx W sg σ H Z F α N X' DD) {i : Nat} {ds : List D} (e : getS α i = some (.ol ds)) : ∃ l vs, σ[i]? = some (some (.ref l)) ∧ H l = some (.lst vs) ∧ RDs X.K H Z ds vs ∧
    ∀ ds' vs', RDs X.K H Z ds' vs' → Keep H Z (upd H l (.lst vs')) Z ∧ ∃ F', InS X.K rx W sg σ (upd H l (.lst vs')) Z F' (setS α i (some (.ol ds'))) N X' DD := by
  obtain ⟨x, Fi, Fr, h1, ⟨l, vs, rfl, rfl, hl, r⟩, p, _, gone⟩ := I.rs.get e
  refine ⟨l, vs, h1, hl, r, fun ds' vs' r' => ?_⟩
  have gl : G3 H Z [l] := (I.g.perm p).left
  obtain ⟨F', s, g, rs⟩ := I.rs.write (w := .ol ds') I.g h1 p gone (o := .lst vs') trivial ⟨l, vs', rfl, rfl, upd_same, r'.wr gl⟩
  exact ⟨s.keep I.g, F', I.next s g .refl rs⟩
theorem InS.writeD' {σ : L2.St} {H : Hp} {Z : ZP} {F : List Addr} {α : Sl} {N : Am.Ends} {X' : XP} {DD : L2.Ends} (I : InS X.K rx W sg σ H Z F α N X' DD) {i : Nat} {ds : List (Am.Key × D)} (e : getS α i = some (.od ds)) : ∃ l vs, σ[i]? = some (some (.ref l)) ∧ H l = some (.dK vs) ∧ RK X.K H Z ds vs ∧
    ∀ ds' vs', RK X.K H Z ds' vs' → Keep H Z (upd H l (.dK vs')) Z ∧ ∃ F', InS X.K rx W sg σ (upd H l (.dK vs')) Z F' (setS α i (some (.od ds'))) N X' DD := by
  obtain ⟨x, Fi, Fr, h1, ⟨l, vs, rfl, rfl, hl, r⟩, p, _, gone⟩ := I.rs.get e
  refine ⟨l, vs, h1, hl, r, fun ds' vs' r' => ?_⟩
  have gl : G3 H Z [l] := (I.g.perm p).left
  obtain ⟨F', s, g, rs⟩ := I.rs.write (w := .od ds') I.g h1 p gone (o := .dK vs') trivial ⟨l, vs', rfl, rfl, upd_same, r'.wr gl⟩
  exact ⟨s.keep I.g, F', I.next s g .refl rs⟩
theorem put_step {σ : L2.St} {H : Hp} {Z : ZP} {F : List Addr} {α : Sl} {N : Am.Ends} {X' : XP} {DD : L2.Ends} {i : Nat} {d : D} {y : V} {M : Sl → Prop} {Q : L2.St → Hp → Prop} (I : InS X.K rx W sg σ H Z F α N X' DD) (rd : RD X.K H Z d y)
    (w : onO (getS α i) fun _ => wpE c mb α (fun z α2 => onO (getS α2 i) fun o => putQ o z (.p d) fun o' => M (setS α2 i (some o'))) X')
    (cont : ∀ H' Z' F' α', Keep H Z H' Z' → InS X.K rx W sg σ H' Z' F' α' N X' DD → M α' → Q σ H') :
    gSub (tVar i) (tE X.K rx c W mb) (fun o i v H Q => ∃ a, o = .ref a ∧ ((∃ xs j m, H a = some (.lst xs) ∧ i = .int j ∧ ixN xs.length j = some m ∧ Q (upd H a (.lst (xs.set m v)))) ∨
    (∃ kvs k, H a = some (.dK kvs) ∧ i = kV k ∧ kvs.length < sizeLine ∧ Q (upd H a (.dK (L2.putK kvs k v)))))) y σ H Q := by
  obtain ⟨o0, eo0, w1⟩ := onO.el w
  obtain ⟨xo, _, _, hσ, _⟩ := I.rs.get eo0
  refine ⟨xo, hσ, ?_⟩
  refine I.val w1 fun u α2 H2 Z2 F2 z Fy w2 I2 s2 g2 r2 => ?_
  obtain ⟨o, eo, w3⟩ := onO.el w2
  have I3 := I.frz s2 g2 I2.rs
  have kp : Keep H Z H2 (fun a => Z2 a ∨ a ∈ Fy) := (s2.trans .frz).keep I.g
  have kz := RD.keep kp d rd
  cases o with
  | ol xs =>
    obtain ⟨j, rfl, w4⟩ := onI.el w3
    obtain ⟨d', ed, w5⟩ := onO.el w4
    cases ed
    obtain ⟨l, ws, hσ2, hl, rr, wr⟩ := I3.writeL' eo
    rw [hσ] at hσ2
    cases hσ2
    cases r2.1
    cases j with
    | negSucc n =>
      obtain ⟨ln, w5⟩ : n < xs.length ∧ M (setS α2 i (some (.ol (setL xs (xs.length - 1 - n) d)))) := w5
      obtain ⟨kw, F', I4⟩ := wr _ _ (rr.setN (xs.length - 1 - n) kz)
      refine ⟨l, rfl, .inl ⟨ws, Int.negSucc n, _, hl, rfl, ?_, cont _ _ _ _ (kp.trans kw) I4 w5⟩⟩
      rw [← rr.len]
      unfold ixN
      rw [if_neg (by omega), if_pos (by omega)]
      congr 1
      omega
    | ofNat n =>
      obtain ⟨_, eg, w5⟩ := onO.el w5
      have lt := getL_lt eg
      obtain ⟨kw, F', I4⟩ := wr _ _ (rr.setN n kz)
      refine ⟨l, rfl, .inl ⟨ws, Int.ofNat n, _, hl, rfl, ?_, cont _ _ _ _ (kp.trans kw) I4 w5⟩⟩
      rw [← rr.len]
      unfold ixN
      rw [if_pos (show (0 : Int) ≤ Int.ofNat n from Int.natCast_nonneg n), if_pos (show Int.ofNat n < (xs.length : Int) from Int.ofNat_lt.mpr lt)]
      rfl
  | od kvs =>
    obtain ⟨de, ede, w4⟩ := onO.el w3
    obtain ⟨k, ek, w5⟩ := onO.el w4
    obtain ⟨d', ed, hz, w6⟩ := onO.el w5
    cases ed
    obtain ⟨l, ws, hσ2, hl, rr, wr⟩ := I3.writeD' eo
    rw [hσ] at hσ2
    cases hσ2
    obtain ⟨kw, F', I4⟩ := wr _ _ (rr.put k kz)
    exact ⟨l, rfl, .inr ⟨ws, kK k, hl, key_rd r2 ede ek, by rw [← rr.len]; exact hz, cont _ _ _ _ (kp.trans kw) I4 w6⟩⟩
  | _ => exact w3.elim
/-- o[i], o[j] = a pair -/
theorem s_swp {i : Nat} {x : Str} {px py pa pb pt : Pos} {kt : Nat} (hu : X.A.units + 190 < cLine) (hc : X.calm = true) (he : PE X e (tE X.K rx c W me)) (ha : PE X a (tE X.K rx c W ma)) (hb : PE X b (tE X.K rx c W mb)) (hN : X.N[i]? = some x := by rfl) (hv : Vis X.env.scope x := by first | exact .inl rfl | exact .inr (.inl rfl) | exact .inr (.inr rfl))
    (hd : (x == ("__debug__" : Str)) = false := by decide) (hcd : (x == ("__classdict__" : Str)) = false := by decide)
    (ea : ∀ v, assign (.Subscript (.Name x px) a pa) X.env v = (do
      let ov ← holding [v] (eval (.Name x px) X.env)
      let iv ← holding [v, ov] (eval a X.env)
      standAt pa
      holding [v, ov, iv] (setItem ov iv v)
      release [v, ov, iv] []) := by intro _; rfl)
    (eb : ∀ v, assign (.Subscript (.Name x py) b pb) X.env v = (do
      let ov ← holding [v] (eval (.Name x py) X.env)
      let iv ← holding [v, ov] (eval b X.env)
      standAt pb
      holding [v, ov, iv] (setItem ov iv v)
      release [v, ov, iv] []) := by intro _; rfl)
    (hn : (assignEach [.Subscript (.Name x px) a pa, .Subscript (.Name x py) b pb] X.env).length = 2 := by rfl) (hst : (assignEach [.Subscript (.Name x px) a pa, .Subscript (.Name x py) b pb] X.env).findIdx? (·.1) = none := by rfl)
    (q1 : (assignEach [.Subscript (.Name x px) a pa, .Subscript (.Name x py) b pb] X.env).map (·.2) = assign (.Subscript (.Name x px) a pa) X.env :: (assignEach [.Subscript (.Name x py) b pb] X.env).map (·.2) := by rfl)
    (q2 : (assignEach [.Subscript (.Name x py) b pb] X.env).map (·.2) = assign (.Subscript (.Name x py) b pb) X.env :: (assignEach [] X.env).map (·.2) := by rfl)
    (hs : swapsWithSole [.Tuple [.Subscript (.Name x px) a pa, .Subscript (.Name x py) b pb] kt pt] e pos.line X.env = pure false := by rfl) (hw : swappedStores [.Tuple [.Subscript (.Name x px) a pa, .Subscript (.Name x py) b pb] kt pt] e X.env = pure none := by rfl)
    (h1 : (assignEach [.Tuple [.Subscript (.Name x px) a pa, .Subscript (.Name x py) b pb] kt pt] X.env).map (·.2) = [assign (.Tuple [.Subscript (.Name x px) a pa, .Subscript (.Name x py) b pb] kt pt) X.env] := by rfl) :
    PS X (.Assign [.Tuple [.Subscript (.Name x px) a pa, .Subscript (.Name x py) b pb] kt pt] e pos) (tS X.K rx c W sg (.swp i ma mb me)) :=
  PS.weak (ps_asg he (pg_tup (n := 2) hc (pgs_cons (pg_sub (pe_var hN hv hd hcd) ha (set_any (by omega)) ea) (pgs_cons (pg_sub (pe_var hN hv hd hcd) hb (set_any (by omega)) eb) pgs_nil q2) q1) hn hst) hs hw h1) fun DD σ H ⟨α, Z, F, N, X', I, w⟩ => by
  refine I.val w fun v α1 H1 Z1 F1 y Fx w1 I1 s1 g1 r1 => ?_
  obtain ⟨ds, rfl, w2⟩ := onT.el w1
  match ds, w2 with
  | [d, d'], w2 =>
    obtain ⟨p, vs, rfl, q, r⟩ := r1.1
    obtain ⟨x1, q', rfl, ra, ⟨x2, q'', rfl, rb, e3⟩⟩ := r
    cases e3
    refine ⟨p, _, rfl, q.sq, rfl, x1, _, rfl, ?_⟩
    refine put_step (M := fun β => onO (getS β i) fun _ => wpE c mb β (fun z α3 => onO (getS α3 i) fun o => putQ o z (.p d') fun o' => N.nx (setS α3 i (some o'))) X') I1 ra w2 fun H' Z' F' α' kp I' m => ?_
    refine ⟨x2, [], rfl, ?_⟩
    refine put_step I' (RD.keep kp _ rb) m fun H2 Z2 F2 α2 kp2 I2 m2 => ?_
    exact ⟨rfl, I2.nxt m2⟩
/-- a method without arguments -/
theorem s_meth0 {m : Mt} {nm : Str} {p2 : Pos} (hu : X.A.units + 190 < cLine) (ho : PE X a (tO X.K rx c W ma)) (hnm : nm = m.nm := by rfl) (h1 : okO ma = true := by rfl)
    (hbase : attributeBase a nm X.env (eval a X.env) = eval a X.env := by rfl)
    (hline : (p2.endLine == pos.line) = true := by rfl) : PE X (.Call (.Attribute a nm p2) [] [] pos) (tE X.K rx c W (.meth m ma .nil)) := by
  subst hnm
  refine PE.weak (t := tBX X m.nm (tO X.K rx c W ma) (tEl X.K rx c W .nil)) ⟨fun pins s σ H Q I h => ?_⟩ fun σ H Q h => meth_run hu h1 h
  refine wpAny_Call_method0_late hbase hline (thn (ho.run pins s σ H _ I h) fun v s1 ⟨x, H1, I1, r1, T, id, r, mk, ty, q1⟩ => ?_)
  obtain ⟨h1, h2⟩ := tyA_is I1 r1 ty
  exact ⟨T, id, mk.pa, mk.slot, mk.hty, h1, h2, Calls.callWith_builtin rfl (PySem.evalArgs_none (mk.hm pins s1 σ H1 x [] v [] Q I1 r1 .nil (tEl_nil q1)))⟩
end
end Am

set_option maxHeartbeats 4000000
namespace Am
open PySem PySem.Spec PyProof.Rows L2
variable [CN]
/-- in another order -/
def permX {α : Type} (pm : List Nat) (d : α) (xs : List α) : List α := pm.map fun j => xs.getD j d
theorem vals_at : ∀ {vs : List V} {us : List Value}, Vals vs us → ∀ j, j < vs.length → RelV (vs.getD j .non) (us.getD j .none)
  | _, _, .nil, j, h => absurd h (Nat.not_lt_zero _)
  | _, _, .cons r rs, 0, _ => r
  | _, _, .cons r rs, j + 1, h => vals_at rs j (Nat.lt_of_succ_lt_succ h)
theorem vals_perm {vs : List V} {us : List Value} (r : Vals vs us) : ∀ pm : List Nat, (∀ j ∈ pm, j < vs.length) → Vals (permX pm .non vs) (permX pm .none us)
  | [], _ => .nil
  | j :: pm, h => .cons (vals_at r j (h j List.mem_cons_self)) (vals_perm r pm fun i hi => h i (List.mem_cons_of_mem _ hi))
section
variable {K : PySem.W.Frag} {H : Hp} {Z : ZP}
theorem RL.dats : ∀ {vs : List AV} {xs : List V} {Fx : List Addr} {ds : List D}, RL K H Z vs xs Fx → dats? vs = some ds → RDs K H Z ds xs ∧ Fx = []
  | [], _, _, _, ⟨e, f⟩, h => by cases h; exact ⟨e, f⟩
  | v :: r, _, _, ds, ⟨x, q, F1, F2, e, ef, h1, h2⟩, h => by
    subst ef
    cases v with
    | p d =>
      have h : (match dats? r with | some q => some (d :: q) | none => none) = some ds := h
      cases er : dats? r with
      | none => rw [er] at h; cases h
      | some q' =>
        rw [er] at h
        cases h
        obtain ⟨a, b⟩ := h2.dats er
        obtain ⟨c1, c2⟩ := h1
        exact ⟨⟨x, q, e, c1, a⟩, by rw [c2, b]; rfl⟩
    | _ => cases h
theorem perm_rl {ds : List D} {xs : List V} (r : RDs K H Z ds xs) : ∀ {pm : List Nat} {as : List AV}, permA pm ds = some as → RL K H Z as (permX pm .non xs) [] ∧ ∀ j ∈ pm, j < xs.length
  | [], _, h => by cases h; exact ⟨⟨rfl, rfl⟩, fun j h => by cases h⟩
  | j :: pm, as, h => by
    have h : (match getL ds j, permA pm ds with | some d, some q => some (AV.p d :: q) | _, _ => none) = some as := h
    cases e1 : getL ds j with
    | none => rw [e1] at h; cases h
    | some d =>
      cases e2 : permA pm ds with
      | none => rw [e1, e2] at h; cases h
      | some q =>
        rw [e1, e2] at h
        cases h
        obtain ⟨a, b⟩ := perm_rl r e2
        have lj := getL_lt e1
        rw [getL_eq] at e1
        obtain ⟨x, ex, rx⟩ := r.at e1
        have lx := (List.getElem?_eq_some_iff.mp ex).1
        refine ⟨⟨x, _, [], [], ?_, rfl, ⟨rx, rfl⟩, a⟩, fun i hi => ?_⟩
        · show (xs.getD j .non) :: permX pm .non xs = _
          rw [List.getD_eq_getElem?_getD, ex]
          rfl
        · rcases List.mem_cons.mp hi with e | hi
          · rw [e]; exact lx
          · exact b i hi
end
/-- a def, called by its arguments' names -/
structure KDef (P : Program) (w : World) (K : PySem.W.Frag) (mg : Str → Option Value) (base : Heap) (rx : RX) (k : Nat) (call : List AV → FP → FX → Prop) (x : Str) (ks : List Str) (pm : List Nat) : Prop where
  ex : ∃ f fd ps, FnOk P w K mg base (L2.CX P w) k f fd ps (spA K rx call) ∧ mg x = some (.ref f) ∧ PySem.W.keepIn K (.ref f) = true ∧ ∀ (s : Shared) (ws : List Value), ks.length ≤ ws.length → BindsTo s fd ⟨[], ks.zip ws⟩ (ps.zip (permX pm .none ws))
theorem FD.kd {P : Program} {w : World} {K : PySem.W.Frag} {mg : Str → Option Value} {base : Heap} {rx : RX} {x : Str} {st : Stmt} {ps : List Str} {f : Addr} {fd : FuncData} {k : Nat} {call : List AV → FP → FX → Prop} (h : FD K mg x st ps f fd)
    (o : FnOk P w K mg base (L2.CX P w) k f fd ps (spA K rx call)) (ks : List Str) (pm : List Nat)
    (b : ∀ (kV doc pm' : Value) (an : Option Addr) (cdv ct : Value) (ws : List Value), ks.length ≤ ws.length → bindArgs (PySem.W.fnOf x x (defArgs st) (defBody st) (defScope st) .none kV doc pm' an cdv ct) ⟨[], ks.zip ws⟩ = pure (ps.zip (permX pm .none ws))) :
    KDef P w K mg base rx k call x ks pm := by
  obtain ⟨oc, od, kV, doc, pm', an, cdv, ct, osl, rfl, lk, hcd⟩ := h.F.ex
  exact ⟨f, _, ps, o, h.hm, h.hk, fun s ws hl => .of_eq (b kV doc pm' an cdv ct ws hl)⟩
section
variable {X : Cx} {rx : RX} {c : Am.Ctx} {W : WX} {e : Expr} {kws : List Keyword} {pos kpos : Pos} {ma : ME} {ms : MEs} {nm : Option Str}
theorem PK.weak {t t' : TA} (h : PK X kws t) (w : ∀ σ H Q, t' σ H Q → t σ H Q) : PK X kws t' := ⟨fun pos pins s σ H Q I q => h.run pos pins s σ H Q I (w _ _ _ q)⟩
theorem sk_nil : PK X [] (tEs X.K rx c W .nil) := PK.weak pk_nil fun _ _ _ h => tEs_nil h
theorem sk_cons (ha : PE X e (tE X.K rx c W ma)) (hr : PK X kws (tEs X.K rx c W ms)) : PK X (⟨nm, e, kpos⟩ :: kws) (tEs X.K rx c W (.cons ma ms)) := PK.weak (pk_cons ha hr) fun _ _ _ h => tEs_cons h
theorem kcall_run {f : Nat} {pm : List Nat} {σ : L2.St} {H : Hp} {Q : VK} (h : tE X.K rx c W (.kcall f pm ms) σ H Q) : tEs X.K rx c W ms σ H fun xs H1 => spA X.K rx (c.call f) (permX pm .non xs) H1 Q (WE W σ) ∧ ∀ j ∈ pm, j < xs.length := by
  obtain ⟨α, Z, F, P, X', I, w⟩ := tE.el h
  refine I.vals w fun vs α1 H1 Z1 F1 xs Fx w1 I1 s1 g1 r1 => ?_
  obtain ⟨ds, ed, w2⟩ := onO.el w1
  obtain ⟨as, ea, w3⟩ := onO.el w2
  obtain ⟨rd, ef⟩ := r1.dats ed
  subst ef
  obtain ⟨rl, hj⟩ := perm_rl rd ea
  rw [List.append_nil] at s1 g1
  have gs : G3 H1 Z1 ([] ++ F1) := g1
  have back : ∀ {H' : Hp} {Z' : ZP} {Fo Fr : List Addr}, Step H1 Z1 [] H' Z' (Fo ++ Fr) → G3 H' Z' (Fo ++ Fr) → RS X.K H' Z' α1 σ F1 ∧ Step H Z F H' Z' (F1 ++ Fr) ∧ G3 H' Z' (F1 ++ Fr) := fun {H' Z' Fo Fr} s3 g3 => by
    have s4 := s3.beside gs
    have g4 := G3.beside gs s3 g3
    have pp : ((Fo ++ Fr) ++ F1).Perm ((F1 ++ Fr) ++ Fo) := by
      refine List.perm_append_comm.trans ?_
      rw [List.append_assoc]
      exact List.Perm.append_left F1 List.perm_append_comm
    exact ⟨I1.rs.frame gs.left s3 gs.dis, ((s1.trans s4).permR pp).lessR fun _ h => List.mem_append_left _ h, (g4.perm pp).left⟩
  refine ⟨⟨Z1, as, [], _, _, rl, gs.left, w3, fun v ws hp H' Z' x Fo Fr s3 g3 ro ra => ?_, fun e ds ws hx H' Z' Fo cls d s3 g3 ro hr => ?_⟩, hj⟩
  · obtain ⟨a1, a2, a3⟩ := back s3 g3
    have hp : P v α1 := by
      have hp : frc α1 (P v) := hp
      rwa [frc_eq] at hp
    exact I.fin hp a2 a3 a1 ra
  · obtain ⟨a1, a2, a3⟩ := back (Fr := []) (by rw [List.append_nil]; exact s3) (by rw [List.append_nil]; exact g3)
    rw [List.append_nil] at a2 a3
    exact I.hX e ds _ hx H' Z' F1 cls d a2 a3 a1 hr
/-- f(k = v, ..) -/
theorem s_kcall {f k : Nat} {x : Str} {p : Pos} {ks : List Str} {pm : List Nat} (D : KDef X.prog X.w X.K X.mg X.base rx k (c.call f) x ks pm) (hr : Room k X.A) (tk : Takes X W) (hkw : PK X kws (tEs X.K rx c W ms)) (hpm : ∀ n, (∀ j ∈ pm, j < n) → ks.length ≤ n)
    (hall : (backToKw pos (keywordEach kws X.env)).all (·.1.isSome) = true := by rfl) (hks : (backToKw pos (keywordEach kws X.env)).filterMap (·.1) = ks := by rfl)
    (hg : Gl X x := by rfl) (hdb : (x == ("__debug__" : Str)) = false := by decide)
    (hpl : ((backTo pos (starEach [] X.env)).any (·.1) || (backToKw pos (keywordEach kws X.env)).any (·.1.isNone)) = false := by rfl) :
    PE X (.Call (.Name x p) [] kws pos) (tE X.K rx c W (.kcall f pm ms)) := by
  obtain ⟨fa, fd, ps, F, hm, hk, hb⟩ := D.ex
  refine PE.weak (t := fun σ H Q => tEs X.K rx c W ms σ H fun xs H1 => spA X.K rx (c.call f) (permX pm .non xs) H1 Q (WE W σ) ∧ ∀ j ∈ pm, j < xs.length) ⟨fun pins s σ H Q I h => ?_⟩ fun σ H Q h => kcall_run h
  refine wpAny_Call_Name_kw (ld_glob I hg hm ?_ hdb)
  refine PySem.W.callWith_KW0 (h₀ := X.base) I.ok.mod.kin hk hall (thn (hkw.run pos pins s σ H _ I h) fun ws s2 ⟨zs, H2, I2, rz, q2, hj⟩ => ⟨I2.kIn, ?_⟩) hpl
  rw [hks]
  have r2 := vals_perm rz pm hj
  have hl : (permX pm .none ws).length = ps.length := by rw [← r2.length]; exact F.len _ _ _ _ q2
  have lw : ks.length ≤ ws.length := by rw [← rz.length]; exact hpm _ hj
  refine wpAny_call (codeAny_mono (F.run X.A X.stack s2 H2 ⟨[], ks.zip ws⟩ (permX pm .none ws) (permX pm .non zs) Q (WE W σ) hr I2.env0 (hb s2 ws lw) r2 q2) fun r s' hq => ?_)
  cases r with
  | error e => exact passAt tk σ pins H2 s2 e s' I2 hq
  | ok fl =>
    cases fl with
    | ret u => exact I2.after hq
    | next => exact False.elim hq
    | brk => exact False.elim hq
    | cont => exact False.elim hq
end
end Am

set_option maxHeartbeats 4000000
namespace Am
open PySem PySem.W PySem.F L2 PyProof.Rows
/-- the first of the least -/
theorem min_fold : ∀ (xs : List PyData) (x : PyData), minD x xs ∈ x :: xs ∧ ∀ y ∈ x :: xs, dataLt y (minD x xs) = false
  | [], x => ⟨List.mem_cons_self, fun y hy => by rw [List.mem_singleton.mp hy]; exact lex_irrefl _⟩
  | z :: xs, x => by
    have e : minD x (z :: xs) = minD (if dataLt z x then z else x) xs := rfl
    rw [e]
    obtain ⟨h1, h2⟩ := min_fold xs (if dataLt z x then z else x)
    by_cases h : dataLt z x = true
    · rw [if_pos h] at h1 h2 ⊢
      refine ⟨?_, fun y hy => ?_⟩
      · exact List.mem_cons_of_mem _ h1
      · rcases List.mem_cons.mp hy with rfl | hy
        · cases q : dataLt y (minD z xs) with
          | false => rfl
          | true =>
            have := lex_trans _ _ _ (show lexLt itemOrd (keyToks z) (keyToks y) = true from h) (show lexLt itemOrd (keyToks y) (keyToks (minD z xs)) = true from q)
            have n := h2 z List.mem_cons_self
            exact absurd (show dataLt z (minD z xs) = true from this) (by rw [n]; decide)
        · exact h2 y hy
    · rw [if_neg h] at h1 h2 ⊢
      refine ⟨?_, fun y hy => ?_⟩
      · rcases List.mem_cons.mp h1 with e1 | h1
        · rw [e1]; exact List.mem_cons_self
        · exact List.mem_cons_of_mem _ (List.mem_cons_of_mem _ h1)
      · rcases List.mem_cons.mp hy with rfl | hy
        · exact h2 y List.mem_cons_self
        · rcases List.mem_cons.mp hy with rfl | hy
          · cases q : dataLt y (minD x xs) with
            | false => rfl
            | true =>
              have n := h2 x List.mem_cons_self
              have m1 : minD x xs ∈ x :: xs := h1
              -- x is not below the least, y is not below x
              cases q2 : dataLt x y with
              | true => exact absurd (show dataLt x (minD x xs) = true from lex_trans _ _ _ (show lexLt itemOrd (keyToks x) (keyToks y) = true from q2) (show lexLt itemOrd (keyToks y) (keyToks (minD x xs)) = true from q)) (by rw [n]; decide)
              | false =>
                have e1 : keyToks x = keyToks y := lex_total _ _ q2 (show dataLt y x = false by simpa using h)
                have : dataLt x (minD x xs) = true := by
                  show lexLt itemOrd (keyToks x) (keyToks (minD x xs)) = true
                  rw [e1]
                  exact q
                exact absurd this (by rw [n]; decide)
          · exact h2 y (List.mem_cons_of_mem _ hy)
theorem max_fold : ∀ (xs : List PyData) (x : PyData), maxD x xs ∈ x :: xs ∧ ∀ y ∈ x :: xs, dataLt (maxD x xs) y = false
  | [], x => ⟨List.mem_cons_self, fun y hy => by rw [List.mem_singleton.mp hy]; exact lex_irrefl _⟩
  | z :: xs, x => by
    have e : maxD x (z :: xs) = maxD (if dataLt x z then z else x) xs := rfl
    rw [e]
    obtain ⟨h1, h2⟩ := max_fold xs (if dataLt x z then z else x)
    by_cases h : dataLt x z = true
    · rw [if_pos h] at h1 h2 ⊢
      refine ⟨List.mem_cons_of_mem _ h1, fun y hy => ?_⟩
      rcases List.mem_cons.mp hy with rfl | hy
      · cases q : dataLt (maxD z xs) y with
        | false => rfl
        | true =>
          have := lex_trans _ _ _ (show lexLt itemOrd (keyToks (maxD z xs)) (keyToks y) = true from q) (show lexLt itemOrd (keyToks y) (keyToks z) = true from h)
          have n := h2 z List.mem_cons_self
          exact absurd (show dataLt (maxD z xs) z = true from this) (by rw [n]; decide)
      · exact h2 y hy
    · rw [if_neg h] at h1 h2 ⊢
      refine ⟨?_, fun y hy => ?_⟩
      · rcases List.mem_cons.mp h1 with e1 | h1
        · rw [e1]; exact List.mem_cons_self
        · exact List.mem_cons_of_mem _ (List.mem_cons_of_mem _ h1)
      · rcases List.mem_cons.mp hy with rfl | hy
        · exact h2 y List.mem_cons_self
        · rcases List.mem_cons.mp hy with rfl | hy
          · cases q : dataLt (maxD x xs) y with
            | false => rfl
            | true =>
              have n := h2 x List.mem_cons_self
              cases q2 : dataLt y x with
              | true => exact absurd (show dataLt (maxD x xs) x = true from lex_trans _ _ _ (show lexLt itemOrd (keyToks (maxD x xs)) (keyToks y) = true from q) (show lexLt itemOrd (keyToks y) (keyToks x) = true from q2)) (by rw [n]; decide)
              | false =>
                have e1 : keyToks y = keyToks x := lex_total _ _ q2 (show dataLt x y = false by simpa using h)
                have : dataLt (maxD x xs) x = true := by
                  show lexLt itemOrd (keyToks (maxD x xs)) (keyToks x) = true
                  rw [← e1]
                  exact q
                exact absurd this (by rw [n]; decide)
          · exact h2 y (List.mem_cons_of_mem _ hy)
variable [CN]
section
variable {K : PySem.W.Frag} {H H' : Hp} {Z Z' : ZP} {X : Cx} {c : Am.Ctx}
theorem srt_alike {ds : List D} (h : SrtOk ds) : AlikeAll (toPys ds) := by
  rw [toPys_map]
  refine ⟨fun x hx y hy => ?_, fun x hx => ?_⟩
  · obtain ⟨p, hp, rfl⟩ := List.mem_map.mp hx
    obtain ⟨q, hq, rfl⟩ := List.mem_map.mp hy
    exact alike_D _ _ (h.1 p hp q hq)
  · obtain ⟨p, hp, rfl⟩ := List.mem_map.mp hx
    intro e
    have := h.1 p hp p hp
    cases p <;> simp [toPy, sameShape] at e this
/-- what stands at a place, by its reading -/
theorem read_at {pins : List (Addr × Obj)} {σ : L2.St} {s : Shared} (I : Inv X pins σ H s) {ds : List D} {ws : List V} {its : List Value} (h2 : RDs X.K H Z ds ws) (rv : Vals ws its) (dp : depL ds ≤ 180) {i : Nat} {v : Value} {h' : Heap} {m : PyData} {bs : List Addr}
    (hv : its.toArray[i]? = some v) (hv2 : Reads h' v m bs) (hk : ∀ b o, s.heap.get? b = some o → h'.get? b = some o) : ∃ d y, d ∈ ds ∧ RD X.K H Z d y ∧ RelV y v ∧ toPy d = m := by
  have hi : i < its.length := by
    obtain ⟨hi, _⟩ := Array.getElem?_eq_some_iff.mp hv
    simpa using hi
  have hids : i < ds.length := by rw [h2.len, rv.length]; exact hi
  have ed : ds[i]? = some ds[i] := List.getElem?_eq_getElem hids
  obtain ⟨y, ey, ry⟩ := h2.at ed
  obtain ⟨v', ev, rel⟩ := rv.get ey
  have : v' = v := by
    have : its[i]? = some v := by simpa using hv
    rw [ev] at this
    exact Option.some.inj this
  subst this
  obtain ⟨as2, rd⟩ := RD.reads I _ ry rel (Nat.le_trans (dep_mem (List.getElem_mem hids)) dp)
  exact ⟨ds[i], y, List.getElem_mem hids, ry, rel, (PySem.Reads.unique (reads_keeps hk rd) _ _ hv2).1⟩
theorem cr_minA (hc : X.calm = true) (hu : X.A.units + 190 < cLine) : CallR X (.builtin "min") (rBi X.K c .minA) := fun pins s σ H xs us Q I r ⟨Z, vs, k, zt, rl, w, res⟩ => by
  match vs, w, rl with
  | [v], w, rl =>
    obtain ⟨ds, e, hl, so, w⟩ := onO.el w
    obtain ⟨x, F, rfl, ra⟩ := rl.one'
    obtain ⟨a, ws, rfl, h1, h2⟩ := ra.list e
    obtain ⟨its, rv, hls, _⟩ := I.list h1
    rw [Vals.ref1 r]
    have dp := so.2.2
    obtain ⟨as, hr⟩ := RDs.reads I ds h2 rv dp
    have pp := toPys_plain ds dp
    have al := srt_alike so
    have lt : ∀ p ∈ ds, ∀ q ∈ ds, dataLt (toPy p) (toPy q) = ltD p q := fun p hp q hq => lt_D p q (so.1 p hp q hq) (Nat.le_trans (dep_mem hp) dp) (Nat.le_trans (dep_mem hq) dp)
    have tm : ∀ q ∈ ds, toPy q ∈ toPys ds := fun q hq => by rw [toPys_map]; exact List.mem_map.mpr ⟨q, hq, rfl⟩
    have at' : ∀ {i : Nat} {v : Value} {h' : Heap} {m : PyData} {bs : List Addr}, its.toArray[i]? = some v → Reads h' v m bs → (∀ b o, s.heap.get? b = some o → h'.get? b = some o) → ∃ d y, d ∈ ds ∧ RD X.K H Z d y ∧ RelV y v ∧ toPy d = m := read_at I h2 rv dp
    cases ds with
    | nil => simp at hl
    | cons d0 r0 =>
      refine min_list_data (I.ok.hd hc) hls.isList hr al (by have := pp.2; show X.A.units + 1 + PyData.depthAll (toPys (d0 :: r0)) < cLine; omega) fun i v h' tk bs hv hv2 hk => ?_
      obtain ⟨d, y, hd, ry, rel, ed⟩ := at' hv hv2 hk
      obtain ⟨_, mf⟩ := min_fold (toPys r0) (toPy d0)
      exact ⟨y, H, I.kept hk, rel, res.d (w d hd fun q hq => by
        have := mf (toPy q) (tm q hq)
        rw [← ed, lt q hq d hd] at this
        exact this) ry⟩
theorem cr_maxA (hc : X.calm = true) (hu : X.A.units + 190 < cLine) : CallR X (.builtin "max") (rBi X.K c .maxA) := fun pins s σ H xs us Q I r ⟨Z, vs, k, zt, rl, w, res⟩ => by
  match vs, w, rl with
  | [v], w, rl =>
    obtain ⟨ds, e, hl, so, w⟩ := onO.el w
    obtain ⟨x, F, rfl, ra⟩ := rl.one'
    obtain ⟨a, ws, rfl, h1, h2⟩ := ra.list e
    obtain ⟨its, rv, hls, _⟩ := I.list h1
    rw [Vals.ref1 r]
    have dp := so.2.2
    obtain ⟨as, hr⟩ := RDs.reads I ds h2 rv dp
    have pp := toPys_plain ds dp
    have al := srt_alike so
    have lt : ∀ p ∈ ds, ∀ q ∈ ds, dataLt (toPy p) (toPy q) = ltD p q := fun p hp q hq => lt_D p q (so.1 p hp q hq) (Nat.le_trans (dep_mem hp) dp) (Nat.le_trans (dep_mem hq) dp)
    have tm : ∀ q ∈ ds, toPy q ∈ toPys ds := fun q hq => by rw [toPys_map]; exact List.mem_map.mpr ⟨q, hq, rfl⟩
    have at' : ∀ {i : Nat} {v : Value} {h' : Heap} {m : PyData} {bs : List Addr}, its.toArray[i]? = some v → Reads h' v m bs → (∀ b o, s.heap.get? b = some o → h'.get? b = some o) → ∃ d y, d ∈ ds ∧ RD X.K H Z d y ∧ RelV y v ∧ toPy d = m := read_at I h2 rv dp
    cases ds with
    | nil => simp at hl
    | cons d0 r0 =>
      refine max_list_data (I.ok.hd hc) hls.isList hr al (by have := pp.2; show X.A.units + 1 + PyData.depthAll (toPys (d0 :: r0)) < cLine; omega) fun i v h' tk bs hv hv2 hk => ?_
      obtain ⟨d, y, hd, ry, rel, ed⟩ := at' hv hv2 hk
      obtain ⟨_, mf⟩ := max_fold (toPys r0) (toPy d0)
      exact ⟨y, H, I.kept hk, rel, res.d (w d hd fun q hq => by
        have := mf (toPy q) (tm q hq)
        rw [← ed, lt d hd q hq] at this
        exact this) ry⟩
end
section
variable {X : Cx} {a b d f : Expr} {ta tb tc td : TE} {pos : Pos} {r r' r'' : R2}
def tChain3 (r r' r'' : R2) (ta tb tc td : TE) : TE := fun σ H Q => ta σ H fun x H1 => tb σ H1 fun y H2 => r x y H2 fun z H3 => ∃ k, z = .bl k ∧
  (if k = true then tc σ H3 fun u H4 => r' y u H4 fun z H5 => ∃ k, z = .bl k ∧ (if k = true then td σ H5 fun w H6 => r'' u w H6 Q else Q (.bl false) H5) else Q (.bl false) H3)
theorem pe_chain3 {op op' op'' : CmpOp} (ho : OpR X (compareOp op) r) (ho' : OpR X (compareOp op') r') (ho'' : OpR X (compareOp op'') r'') (ha : PE X a ta) (hb : PE X b tb) (hc : PE X d tc) (hd : PE X f td)
    (hm : lastMarks [op, op', op''] [b, d, f] = false := by with_unfolding_all rfl) : PE X (.Compare a [op, op', op''] [b, d, f] pos) (tChain3 r r' r'' ta tb tc td) := by
  refine ⟨fun pins s σ H Q I h => ?_⟩
  refine Compare_chain (thn (ha.run pins s σ H _ I h) fun v s1 ⟨x, H1, I1, r1, q1⟩ => chain_link (thn (hb.run pins s1 σ H1 _ I1 q1) fun u s2 ⟨y, H2, I2, r2, q2⟩ =>
    thn (ho pins s2 σ H2 x y v u _ I2 r1 r2 q2) fun d s3 ⟨z, H3, I3, r3, k, e, q3⟩ => ?_)) hm
  subst e
  cases r3
  refine wpAny_truthy_bool ?_
  cases k with
  | false => exact ite_ff ⟨.bl false, H3, I3, rfl, q3⟩
  | true =>
    refine ite_tt (chain_link (thn (hc.run pins s3 σ H3 _ I3 q3) fun w' s4 ⟨z', H4, I4, r4, q4⟩ => thn (ho' pins s4 σ H4 y z' u w' _ I4 r2 r4 q4) fun d s5 ⟨z, H5, I5, r5, k, e, q5⟩ => ?_))
    subst e
    cases r5
    refine wpAny_truthy_bool ?_
    cases k with
    | false => exact ite_ff ⟨.bl false, H5, I5, rfl, q5⟩
    | true => exact ite_tt (chain_last (thn (hd.run pins s5 σ H5 _ I5 q5) fun w2 s6 ⟨z2, H6, I6, r6, q6⟩ => ho'' pins s6 σ H6 z' z2 w' w2 Q I6 r4 r6 q6))
theorem pt_chain3 {op op' op'' : CmpOp} (ho : OpR X (compareOp op) r) (ho' : OpR X (compareOp op') r') (ho'' : OpR X (compareOp op'') r'') (ha : PE X a ta) (hb : PE X b tb) (hc : PE X d tc) (hd : PE X f td)
    (hm : lastMarks [op, op', op''] [b, d, f] = false := by with_unfolding_all rfl) : PT X (.Compare a [op, op', op''] [b, d, f] pos) (tTest (tChain3 r r' r'' ta tb tc td)) := by
  refine ⟨fun pins s σ H Q I h => ?_⟩
  refine isTrue_chain (thn (ha.run pins s σ H _ I h) fun v s1 ⟨x, H1, I1, r1, q1⟩ => test_link (thn (hb.run pins s1 σ H1 _ I1 q1) fun u s2 ⟨y, H2, I2, r2, q2⟩ =>
    thn (ho pins s2 σ H2 x y v u _ I2 r1 r2 q2) fun d s3 ⟨z, H3, I3, r3, k, e, q3⟩ => ?_)) hm
  subst e
  cases r3
  refine wpAny_truthy_bool ?_
  cases k with
  | false =>
    obtain ⟨k', e', q'⟩ := q3
    cases e'
    exact ite_ff ⟨H3, I3, q'⟩
  | true =>
    refine ite_tt (test_link (thn (hc.run pins s3 σ H3 _ I3 q3) fun w' s4 ⟨z', H4, I4, r4, q4⟩ => thn (ho' pins s4 σ H4 y z' u w' _ I4 r2 r4 q4) fun d s5 ⟨z, H5, I5, r5, k, e, q5⟩ => ?_))
    subst e
    cases r5
    refine wpAny_truthy_bool ?_
    cases k with
    | false =>
      obtain ⟨k', e', q'⟩ := q5
      cases e'
      exact ite_ff ⟨H5, I5, q'⟩
    | true =>
      refine ite_tt (test_last (thn (hd.run pins s5 σ H5 _ I5 q5) fun w2 s6 ⟨z2, H6, I6, r6, q6⟩ => thn (ho'' pins s6 σ H6 z' z2 w' w2 _ I6 r4 r6 q6) fun d' s7 ⟨z3, H7, I7, r7, k2, e2, q7⟩ => ?_))
      subst e2
      cases r7
      exact wpAny_truthy_bool ⟨H7, I7, q7⟩
end
section
variable {X : Cx} {rx : RX} {c : Am.Ctx} {W : WX} {a b d f : Expr} {pos : Pos} {ma mb md mf : ME}
theorem chain3_run {σ : L2.St} {H : Hp} {Q : VK} {o o' o'' : Cp} (h1 : okO ma = true) (h2 : okO mb = true) (h3 : okO md = true) (h4 : okO mf = true) (h : tE X.K rx c W (.chain3 o o' o'' ma mb md mf) σ H Q) :
    tChain3 (rBool X.K (cmpQ o)) (rBool X.K (cmpQ o')) (rBool X.K (cmpQ o'')) (tO X.K rx c W ma) (tO X.K rx c W mb) (tO X.K rx c W md) (tO X.K rx c W mf) σ H Q := by
  obtain ⟨α, Z, F, P, X', I, w⟩ := tE.el h
  refine I.opd h1 w fun v1 α1 H1 Z1 F1 x Fx w1 I1 s1 g1 o1 => ?_
  refine I1.opd h2 w1 fun v2 α2 H2 Z2 F2 y Fy w2 I2 s2 g2 o2 => ?_
  obtain ⟨u1, G1, r1, w3⟩ := (o1.frame g1 s2).fetch I2.rs w2
  obtain ⟨u2, G2, r2, w4⟩ := o2.fetch I2.rs w3
  refine ⟨Z2, u1, u2, G1, G2, fun v => onB v fun r => ifB r (pre md (fun α k => wpE c md α k X') α2 fun z α3 => Am.fetch mb v2 α3 fun y => Am.fetch md z α3 fun z' => cmpQ o' y z' fun r => ifB r
          (pre mf (fun α k => wpE c mf α k X') α3 fun u α4 => Am.fetch md z α4 fun z' => Am.fetch mf u α4 fun u' => cmpQ o'' z' u' fun r => P (.p (.bl r)) α4) (P (.p (.bl false)) α3))
        (P (.p (.bl false)) α2), I2.g.zt, r1, r2, w4, ?_⟩
  intro v3 w5 H3 Z3 x3 Fr n r3
  obtain ⟨r, rfl, w5⟩ := onB.el w5
  obtain ⟨rfl, rfl⟩ := r3
  refine ⟨r, rfl, ?_⟩
  have st := n F2 I2.g
  rw [List.append_nil] at st
  have s3 : Step H2 Z2 F2 H3 Z3 (F2 ++ []) := by rw [List.append_nil]; exact st.1
  have g3 : G3 H3 Z3 (F2 ++ []) := by rw [List.append_nil]; exact st.2
  have I3 := I2.next s3 g3 (I2.rs.new n I2.g.zt)
  have o3 := o2.frame g2 st.1
  have g4 : G3 H3 Z3 (F2 ++ Fy) := G3.beside g2 st.1 st.2
  cases r with
  | false => exact I3.now w5 rfl
  | true =>
    rw [if_pos rfl]
    have w5 : pre md (fun α k => wpE c md α k X') α2 fun z α3 => Am.fetch mb v2 α3 fun y => Am.fetch md z α3 fun z' => cmpQ o' y z' fun r => ifB r
          (pre mf (fun α k => wpE c mf α k X') α3 fun u α4 => Am.fetch md z α4 fun z' => Am.fetch mf u α4 fun u' => cmpQ o'' z' u' fun r => P (.p (.bl r)) α4) (P (.p (.bl false)) α3) := w5
    refine I3.opd h3 w5 fun v3 α3 H4 Z4 F4 z Fz w6 I4 s4 g4' o4 => ?_
    obtain ⟨u3, G3', r3, w7⟩ := (o3.frame g4 s4).fetch I4.rs w6
    obtain ⟨u4, G4', r4, w8⟩ := o4.fetch I4.rs w7
    refine ⟨Z4, u3, u4, G3', G4', fun v => onB v fun r => ifB r (pre mf (fun α k => wpE c mf α k X') α3 fun u α4 => Am.fetch md v3 α4 fun z' => Am.fetch mf u α4 fun u' => cmpQ o'' z' u' fun r => P (.p (.bl r)) α4) (P (.p (.bl false)) α3), I4.g.zt, r3, r4, w8, ?_⟩
    intro v5 w9 H5 Z5 x5 Fr5 n5 r5
    obtain ⟨r, rfl, w9⟩ := onB.el w9
    obtain ⟨rfl, rfl⟩ := r5
    refine ⟨r, rfl, ?_⟩
    have st5 := n5 F4 I4.g
    rw [List.append_nil] at st5
    have s5 : Step H4 Z4 F4 H5 Z5 (F4 ++ []) := by rw [List.append_nil]; exact st5.1
    have g5 : G3 H5 Z5 (F4 ++ []) := by rw [List.append_nil]; exact st5.2
    have I5 := I4.next s5 g5 (I4.rs.new n5 I4.g.zt)
    have o5 := o4.frame g4' st5.1
    have g6 : G3 H5 Z5 (F4 ++ Fz) := G3.beside g4' st5.1 st5.2
    cases r with
    | false => exact I5.now w9 rfl
    | true =>
      rw [if_pos rfl]
      have w9 : pre mf (fun α k => wpE c mf α k X') α3 fun u α4 => Am.fetch md v3 α4 fun z' => Am.fetch mf u α4 fun u' => cmpQ o'' z' u' fun r => P (.p (.bl r)) α4 := w9
      refine I5.opd h4 w9 fun v6 α4 H6 Z6 F6 u Fu w10 I6 s6 g7 o6 => ?_
      obtain ⟨u5, G5', r5, w11⟩ := (o5.frame g6 s6).fetch I6.rs w10
      obtain ⟨u6, G6', r6, w12⟩ := o6.fetch I6.rs w11
      exact ⟨Z6, u5, u6, G5', G6', fun v => P v α4, I6.g.zt, r5, r6, w12, I6.res⟩
variable (hu : X.A.units + 190 < cLine)
include hu
theorem s_chain3 (o o' o'' : Cp) (ha : PE X a (tO X.K rx c W ma)) (hb : PE X b (tO X.K rx c W mb)) (hd : PE X d (tO X.K rx c W md)) (hf : PE X f (tO X.K rx c W mf)) {op op' op'' : CmpOp} (ho : op = o.op := by rfl) (ho' : op' = o'.op := by rfl) (ho'' : op'' = o''.op := by rfl)
    (hm : lastMarks [op, op', op''] [b, d, f] = false := by with_unfolding_all rfl) (h1 : okO ma = true := by rfl) (h2 : okO mb = true := by rfl) (h3 : okO md = true := by rfl) (h4 : okO mf = true := by rfl) : PE X (.Compare a [op, op', op''] [b, d, f] pos) (tE X.K rx c W (.chain3 o o' o'' ma mb md mf)) := by
  subst ho ho' ho''
  exact PE.weak (pe_chain3 (cmp_ok hu o) (cmp_ok hu o') (cmp_ok hu o'') ha hb hd hf hm) fun σ H Q h => chain3_run h1 h2 h3 h4 h
theorem s_chain3T (o o' o'' : Cp) (ha : PE X a (tO X.K rx c W ma)) (hb : PE X b (tO X.K rx c W mb)) (hd : PE X d (tO X.K rx c W md)) (hf : PE X f (tO X.K rx c W mf)) {op op' op'' : CmpOp} (ho : op = o.op := by rfl) (ho' : op' = o'.op := by rfl) (ho'' : op'' = o''.op := by rfl)
    (hm : lastMarks [op, op', op''] [b, d, f] = false := by with_unfolding_all rfl) (h1 : okO ma = true := by rfl) (h2 : okO mb = true := by rfl) (h3 : okO md = true := by rfl) (h4 : okO mf = true := by rfl) : PT X (.Compare a [op, op', op''] [b, d, f] pos) (tT X.K rx c W (.chain3 o o' o'' ma mb md mf)) := by
  subst ho ho' ho''
  exact PT.weak (pt_chain3 (cmp_ok hu o) (cmp_ok hu o') (cmp_ok hu o'') ha hb hd hf hm) fun σ H Q h => chain3_run h1 h2 h3 h4 h
omit hu
theorem s_bitl {apos : Pos} (ha : PE X a (tO X.K rx c W ma)) (h1 : okO ma = true := by rfl) (hbase : attributeBase a "bit_length" X.env (eval a X.env) = eval a X.env := by rfl) (hline : (apos.endLine == pos.line) = true := by rfl) :
    PE X (.Call (.Attribute a "bit_length" apos) [] [] pos) (tE X.K rx c W (.bitl ma)) := PE.weak (pe_bits ha hbase hline) fun σ H Q h => by
  obtain ⟨α, Z, F, P, X', I, w⟩ := tE.el h
  refine I.opd h1 w fun v α1 H1 Z1 F1 x Fx w1 I1 s1 g1 o1 => ?_
  obtain ⟨u, G, r1, w2⟩ := o1.fetch I1.rs w1
  obtain ⟨i, rfl, w3⟩ := onI.el w2
  exact ⟨i, ra_int r1, I1.now w3 rfl⟩
theorem s_lrg2 {p p2 pos2 : Pos} (hc : X.calm = true) (hl : X.mg "list" = none) (hm : X.mg "range" = none) (ha : PE X a (tO X.K rx c W ma)) (hb : PE X b (tO X.K rx c W mb)) (h1 : okO ma = true := by rfl) (h2 : okO mb = true := by rfl) (hgl : Gl X "list" := by rfl) (hg : Gl X "range" := by rfl)
    (na : starEach [a, b] X.env = (false, eval a X.env) :: starEach [b] X.env := by rfl) (nb : starEach [b] X.env = (false, eval b X.env) :: starEach [] X.env := by rfl) (hp : (backTo pos2 (starEach [b] X.env)).any (·.1) = false := by rfl)
    (na2 : starEach [.Call (.Name "range" p2) [a, b] [] pos2] X.env = (false, eval (.Call (.Name "range" p2) [a, b] [] pos2) X.env) :: starEach [] X.env := by rfl) :
    PE X (.Call (.Name "list" p) [.Call (.Name "range" p2) [a, b] [] pos2] [] pos) (tE X.K rx c W (.bi .lrange (.cons ma (.cons mb .nil)))) := PE.weak (pe_listRg hc hgl hl (prg_2 hg hm ha hb na nb hp) na2) fun σ H Q h => by
  obtain ⟨α, Z, F, P, X', I, w⟩ := tE.el h
  have w : pre ma (fun α k => wpE c ma α k X') α fun v α1 => pre mb (fun α k => wpE c mb α k X') α1 fun u α2 => Am.fetch ma v α2 fun x => Am.fetch mb u α2 fun y => onI x fun i => onI y fun j => (-(2 ^ 62) ≤ i ∧ i < 2 ^ 62 ∧ -(2 ^ 62) ≤ j ∧ j < 2 ^ 62 ∧ (j - i).toNat ≤ 2 ^ 24) ∧ P (.ol (rangeD i j)) α2 := w
  refine I.opd h1 w fun v α1 H1 Z1 F1 x Fx w1 I1 s1 g1 o1 => ?_
  refine I1.opd h2 w1 fun v2 α2 H2 Z2 F2 y Fy w2 I2 s2 g2 o2 => ?_
  obtain ⟨u1, G1, r1, w3⟩ := (o1.frame g1 s2).fetch I2.rs w2
  obtain ⟨u2, G2, r2, w4⟩ := o2.fetch I2.rs w3
  obtain ⟨i, rfl, w5⟩ := onI.el w4
  obtain ⟨j, rfl, bd, w6⟩ := onI.el w5
  exact ⟨i, j, ra_int r1, ra_int r2, bd, fun q hq => I2.res.lst I2.g.zt w6 rd_rg hq⟩
end
end Am

set_option maxHeartbeats 1000000
namespace Am
open PySem PySem.Spec PyProof.Rows L2
variable [CN]
theorem rev1_bounds (n : Nat) (h : 0 < n) : sliceBounds none (some 0) (some (-1)) n = ((n : Int) - 1, 0, -1) := by
  unfold sliceBounds
  have h1 : ¬ ((-1 : Int) > 0) := by decide
  have h2 : ¬ ((0 : Int) < 0) := by decide
  simp only [Option.getD_some, h1, h2, if_false]
  congr 2
  omega
theorem rev1_range (n : Nat) (h : 0 < n) : sliceRange ((n : Int) - 1) 0 (-1) = (List.range (n - 1)).map fun k => n - 1 - k := by
  unfold sliceRange
  have h1 : ¬ ((-1 : Int) > 0) := by decide
  by_cases h2 : (n : Int) - 1 > 0
  · have e : ((n : Int) - 1 - 0 - -1 - 1) / (- -1) = ((n - 1 : Nat) : Int) := by
      rw [show (- -1 : Int) = 1 by decide, Int.ediv_one]
      omega
    simp only [h1, if_false, h2, if_true, e, Int.toNat_natCast]
    apply List.map_congr_left
    intro k hk
    have := List.mem_range.mp hk
    omega
  · have e : n = 1 := by omega
    subst e
    rfl
theorem rev1_pick (items : Array Value) : slicePick items none (some 0) (some (-1)) = (items.toList.drop 1).reverse.toArray := by
  rcases Nat.eq_zero_or_pos items.size with h | h
  · have : items = #[] := Array.eq_empty_of_size_eq_zero h
    subst this
    rfl
  unfold slicePick
  rw [rev1_bounds _ h]
  show ((sliceRange ((items.size : Int) - 1) 0 (-1)).filterMap (items[·]?)).toArray = _
  rw [rev1_range _ h]
  congr 1
  have e : (List.range (items.size - 1)).map (fun k => items.size - 1 - k) = ((List.range (items.size - 1)).map (1 + ·)).reverse := by
    apply List.ext_getElem
    · simp
    · intro i h1 h2
      rw [List.getElem_map, List.getElem_reverse, List.getElem_map]
      simp at h1 h2 ⊢
      omega
  rw [e, List.filterMap_reverse]
  congr 1
  have p := pick_run items 1 (items.size - 1)
  rw [p]
  rw [List.take_of_length_le (by rw [List.length_drop, Array.length_toList]; exact Nat.le_refl _)]
section
variable {X : Cx} {rx : RX} {c : Am.Ctx} {W : WX} {a e : Expr} {ma : ME} {pos : Pos}
theorem pe_rev1 {te : TE} {k k0 : Nat} {p0 p1 p2 p3 : Pos} (he : PE X e te) : PE X (.Subscript e (.Slice none (some (.Constant (.int 0) k0 p0)) (some (.UnaryOp .USub (.Constant (.int 1) k p1) p2)) p3) pos) (fun σ H Q => te σ H fun x H1 => ∃ Z v F k, Zt H1 Z ∧ RA X.K H1 Z v x F ∧ (onO (list? v) fun xs => k (.ol (xs.drop 1).reverse)) ∧ ResP X.K H1 Z k Q) := by
  refine ⟨fun pins s σ H Q I h => ?_⟩
  refine Subscript_ (thn (he.run pins s σ H _ I h) fun v s1 ⟨x, H1, I1, r1, q1⟩ => ?_)
  have hst : PO X (some (.UnaryOp .USub (.Constant (.int 1) k p1) p2)) (tPart (tUn (rU fun i => .int (-i)) (tC (.int 1)))) := po_some (pe_un un_neg pe_int)
  have h0 : PO X (some (.Constant (.int 0) k0 p0)) (tPart (tC (.int 0))) := po_some pe_int
  refine wpAny_Slice (thn (po_none.run pins s1 σ H1 (fun o H2 => o = none ∧ H2 = H1) I1 ⟨rfl, rfl⟩) fun vl s2 ⟨l, H2, I2, pl, el, e2⟩ => ?_)
  subst el e2
  refine thn (h0.run pins s2 σ H2 (fun o H3 => o = some 0 ∧ H3 = H2) I2 ⟨0, rfl, rfl, rfl⟩) fun vu s3 ⟨u, H3, I3, pu, eu, e3⟩ => ?_
  subst eu e3
  refine thn (hst.run pins s3 σ H3 (fun o H4 => o = some (-1) ∧ H4 = H3) I3 ⟨1, rfl, -1, rfl, rfl, rfl⟩) fun vs s4 ⟨o, H4, I4, ps, eo, e4⟩ => ?_
  subst eo e4
  have I5 : Inv X pins σ H4 { s4 with heap := s4.heap.push { cls := .type "slice", data := .fields #[vl, vu, vs] } } := I4.kept (t' := s4.toks) fun b ob q => Heap.get?_push_of_some _ q
  obtain ⟨Z, v1, F1, k, zt, ra, wq, res⟩ := q1
  obtain ⟨ds, ed, wk⟩ := onO.el wq
  obtain ⟨ad, ws, rfl, q, hr⟩ := ra.list ed
  cases r1
  obtain ⟨its, rv, ht, hz⟩ := I5.list q
  have hlen := rv.length
  refine tail_any (ops := [.ref ad, .ref s4.heap.objs.size]) ht.isList.typeIs (PySem.slot_list_getitem.lookup) ?_ (by with_unfolding_all rfl)
  refine wpAny_getItem_list_slice ht.isList (Heap.IsSliceOf.new _ vl vu vs) pl pu ps (by decide) ?_ (by rw [List.size_toArray]; omega)
  rw [rev1_pick]
  refine ⟨.ref _, _, I5.laid (t' := s4.toks) (o := .lst (ws.drop 1).reverse) (fun b ob q => Heap.get?_push_of_some _ q) (Nat.le_refl _) ?_, rfl, res.lst zt wk (hr.drop 1).rev (I5.hok.fresh (Nat.le_refl _))⟩
  refine ⟨by rw [List.length_reverse, List.length_drop]; omega, _, 0, (rv.drop 1).reverse, Heap.get?_push_size _ rfl⟩
theorem s_rev1 {k k0 : Nat} {p0 p1 p2 p3 : Pos} (ha : PE X a (tO X.K rx c W ma)) (h1 : okO ma = true := by rfl) : PE X (.Subscript a (.Slice none (some (.Constant (.int 0) k0 p0)) (some (.UnaryOp .USub (.Constant (.int 1) k p1) p2)) p3) pos) (tE X.K rx c W (.rev1 ma)) := PE.weak (pe_rev1 ha) fun σ H Q h => by
  obtain ⟨α, Z, F, P, X', I, w⟩ := tE.el h
  refine I.opd h1 w fun v α1 H1 Z1 F1 x Fx w1 I1 s1 g1 o1 => ?_
  obtain ⟨v', Fv, r, w2⟩ := o1.fetch I1.rs w1
  exact ⟨Z1, v', Fv, fun v => P v α1, I1.g.zt, r, w2, I1.res⟩
end
end Am

set_option maxHeartbeats 1000000
namespace PySem
open Sem (wp)
open AutoSeq1 (wpAny_loadPart')
open PySem.W
section
variable {prog : Program} {w : World} {A : Around} {E : Value → Shared → Prop} {s : Shared}
theorem tv_code {Q₁ : Value → Shared → Prop} {r d : Addr} {n : Nat} {P : Nat → Value → Prop} {OK : Heap → Prop} (K : KdlSrc prog w "dict_values" r d n P OK) (hh : A.handled = none) (hok : OK s.heap) (hn : n ≤ sizeLine) (hT : s.TypeIs (.ref r) "dict_values")
    (h : ∀ (h' : Heap) (tk : Nat) (acc : Array Value), (∀ b o, s.heap.get? b = some o → h'.get? b = some o) → ItemsOf P acc n → Q₁ (.ref h'.objs.size) { s with heap := h'.push { cls := .type "tuple", data := .seq acc }, toks := tk }) :
    codeAny (model prog w) A (.call (.builtin "tuple.__new__") ⟨[.type "tuple", .ref r], []⟩) (wants Q₁ E) s := by
  refine codeAny_of_tree ?_
  show wpAny _ A.in1 (do checkBuiltinCall "tuple.__new__" ⟨[.type "tuple", .ref r], []⟩; again (.builtin "tuple.__new__" ⟨[.type "tuple", .ref r], []⟩)) _ _ s
  refine wpAny_bind (wpAny_of_eq (F.newCall_tuple_1 _) (wpAny_pure ⟨plainId_quiet F.plain_tuple_new _, codeAny_builtin F.entry_tuple_new ?_⟩))
  rw [Around.under_plainId F.plain_tuple_new _]
  have hsub := sub_tuple_self
  have hinit := init_tuple_lookup
  have hmh := madeHere_tuple
  have hh1 : A.in1.handled = none := hh
  wp_walk using wpAny_typeOf hT, kdu_collect (A := A.in1) K hh1 hok hn
  intro h' tk acc hm hacc
  show wpAny _ _ (Builtin.Tuple.tupleExact acc.toList.toArray >>= fun v => ret v) _ _ _
  unfold Builtin.Tuple.tupleExact
  refine wpAny_bind (wpAny_newObj_type ?_ (by show acc.toList.toArray.size ≤ sizeLine; simp only [Array.toArray_toList]; rw [hacc.1]; exact hn))
  refine wpAny_pure ?_
  have e : acc.toList.toArray = acc := by simp
  rw [e]
  exact h h' tk acc hm hacc
theorem tv_call {Q : Value → Shared → Prop} {r d : Addr} {n : Nat} {P : Nat → Value → Prop} {OK : Heap → Prop} (K : KdlSrc prog w "dict_values" r d n P OK) (hh : A.handled = none) (hok : OK s.heap) (hn : n ≤ sizeLine) (hT : s.TypeIs (.ref r) "dict_values")
    (hQ : ∀ (h' : Heap) (tk : Nat) (acc : Array Value), (∀ b o, s.heap.get? b = some o → h'.get? b = some o) → ItemsOf P acc n → Q (.ref h'.objs.size) { s with heap := h'.push { cls := .type "tuple", data := .seq acc }, toks := tk }) :
    wpAny (model prog w) A (call (.type "tuple") [.ref r]) Q E s := by
  refine callType_codes (Q₁ := fun obj s₁ => s₁.TypeIs obj "tuple" ∧ Q obj s₁) F.called_tuple (F.typeCall_tuple_1 _) F.entry_object_init
    (tv_code K hh hok hn hT fun h' tk acc hm hacc => ⟨⟨_, Heap.get?_push_size _ rfl, rfl⟩, hQ h' tk acc hm hacc⟩) fun obj s₁ h₁ => ?_
  exact ⟨h₁.1, F.args_object_init_2 obj _, object_init_meets F.called_tuple.init.lookup F.called_tuple.made (by decide) prog w A.in1 _ s₁ ⟨h₁.1, rfl, h₁.2⟩⟩
end
end PySem
namespace Am
open PySem PySem.Spec PyProof.Rows L2
variable [CN]
theorem RK.vals {K : PySem.W.Frag} {H : Hp} {Z : ZP} : ∀ {kvs : List (Am.Key × D)} {ws : List (L2.Key × V)}, RK K H Z kvs ws → RDs K H Z (kvs.map (·.2)) (ws.map (·.2))
  | [], ws, h => by
    cases (show ws = [] from h)
    rfl
  | (k, d) :: r, ws, h => by
    obtain ⟨x, q, rfl, hd, hr⟩ := h
    exact ⟨x, q.map (·.2), rfl, hd, RK.vals hr⟩
section
variable {X : Cx} {rx : RX} {c : Am.Ctx} {W : WX} {a e : Expr} {ma : ME} {p pos cpos apos : Pos}
theorem pe_tupV {te : TE} (hc : X.calm = true) (hg : Gl X "tuple") (hm : X.mg "tuple" = none) (he : PE X e te) (hbase : attributeBase e "values" X.env (eval e X.env) = eval e X.env := by rfl) (hline : (apos.endLine == cpos.line) = true := by rfl)
    (na : starEach [.Call (.Attribute e "values" apos) [] [] cpos] X.env = (false, eval (.Call (.Attribute e "values" apos) [] [] cpos) X.env) :: starEach [] X.env := by rfl) :
    PE X (.Call (.Name "tuple" p) [.Call (.Attribute e "values" apos) [] [] cpos] [] pos) (fun σ H Q => te σ H fun x H1 => ∃ d ws Z kvs k, x = .ref d ∧ H1 d = some (.dK ws) ∧ RK X.K H1 Z kvs ws ∧ Zt H1 Z ∧ k (.p (.tup (kvs.map (·.2)))) ∧ ResP X.K H1 Z k Q) := by
  refine ⟨fun pins s σ H Q I h => ?_⟩
  refine Call_ (ld_blt I hg hm boot_tuple (PyProof.Rows.callWith_type1 (args_cons ?_ na) na))
  refine wpAny_Call_method (T := "dict") (id := "dict.values") hbase rfl hline F.plainAttrs_dict F.slot_dict_values F.type_dict_values (thn (he.run pins s σ H _ I h) fun u s1 ⟨x, H1, I1, rx, d, ws, Z, kvs, k, ex, hd, rk, zt, hk, res⟩ => ?_)
  subst ex
  obtain rfl : u = Value.ref d := rx
  obtain ⟨z, lo, vs, kv, hm⟩ := (show ObjOk X.prog X.w H1 s1.heap d (.dK ws) from I1.hok d _ hd)
  have hl : ws.length = vs.length := Paired.length kv
  refine ⟨hm.typeIs, hm.mapOf.noDict, ?_⟩
  obtain ⟨ep, hat⟩ := hm.dictAt
  have I2 : Inv X pins σ H1 { s1 with heap := s1.heap.push { cls := .type "dict_values", data := .fields #[.ref d] } } := I1.kept (t' := s1.toks) fun b ob q => Heap.get?_push_of_some _ q
  show wpAny _ _ (callWith cpos (.builtin "dict.values") [.ref d] [] []) _ X.xe s1
  refine method_meetsIn F.slot_dict_values F.entry_dict_values rfl (PySem.evalArgs_none ⟨rfl, hm.typeIs, F.args_dict_values_1 _, _, meets_dict_values (mixKind X.prog X.w) d lo, ⟨vs, hm⟩, ?_⟩)
  refine args_nil ?_
  have hv : (s1.heap.push { cls := .type "dict_values", data := .fields #[.ref d] }).IsValuesView s1.heap.objs.size d := ⟨_, Heap.get?_push_size _ rfl, rfl, rfl⟩
  refine PySem.tv_call (PySem.W.kdl_values (knd := mixKind X.prog X.w) (kvs := vs) (ep := ep)) (I2.ok.hd hc) ⟨hv, hat.push _⟩ (by rw [← hl]; exact z) hv.typeIs fun h' tk acc hkeep hacc => ?_
  have I3 : Inv X pins σ H1 { s1 with heap := h', toks := tk } := I2.kept (t' := tk) hkeep
  have el : acc.toList.length = acc.size := by simp
  have rv : Vals (ws.map (·.2)) acc.toList := by
    refine vals_of_at (by rw [List.length_map, el, hacc.1, hl]) fun j x w h1 h2 => ?_
    obtain ⟨q, hq⟩ := hacc.2 j w (by rw [← Array.getElem?_toList]; exact h2)
    obtain ⟨y, hy, hr⟩ := KV.at' kv hq
    rw [List.getElem?_map, hy] at h1
    cases h1
    exact hr
  have t := Inv.tnew I3 rv (by rw [List.length_map]; exact z)
  rw [show acc.toList.toArray = acc by simp] at t
  exact ⟨.ref h'.objs.size, _, t, rfl, res.tup zt hk rk.vals (I3.hok.fresh (Nat.le_refl _)) rfl rfl⟩
theorem s_tupV (hc : X.calm = true) (hm : X.mg "tuple" = none) (ha : PE X a (tO X.K rx c W ma)) (h1 : okO ma = true := by rfl) (hg : Gl X "tuple" := by rfl) (hbase : attributeBase a "values" X.env (eval a X.env) = eval a X.env := by rfl) (hline : (apos.endLine == cpos.line) = true := by rfl)
    (na : starEach [.Call (.Attribute a "values" apos) [] [] cpos] X.env = (false, eval (.Call (.Attribute a "values" apos) [] [] cpos) X.env) :: starEach [] X.env := by rfl) :
    PE X (.Call (.Name "tuple" p) [.Call (.Attribute a "values" apos) [] [] cpos] [] pos) (tE X.K rx c W (.bi .tupV (.cons ma .nil))) := PE.weak (pe_tupV hc hg hm ha hbase hline na) fun σ H Q h => by
  obtain ⟨α, Z, F, P, X', I, w⟩ := tE.el h
  have w : pre ma (fun α k => wpE c ma α k X') α fun v α1 => Am.fetch ma v α1 fun y => (match y with
    | .od kvs => P (.p (.tup (kvs.map (·.2)))) α1
    | _ => False) := w
  refine I.opd h1 w fun v α1 H1 Z1 F1 x Fx w1 I1 s1 g1 o1 => ?_
  obtain ⟨u, G, r1, w2⟩ := o1.fetch I1.rs w1
  cases u with
  | od kvs =>
    obtain ⟨d, ws, rfl, _, hd, rk⟩ := r1
    exact ⟨d, ws, Z1, kvs, fun v => P v α1, rfl, hd, rk, I1.g.zt, w2, I1.res⟩
  | _ => exact (show False from w2).elim
end
end Am

set_option maxHeartbeats 4000000
namespace Am
open PySem PySem.Spec PyProof.Rows L2
variable [CN]
theorem EK.xf {K : PySem.W.Frag} (E : EK K) {e : Nat} (he : e < 6) : XfC K (CN.adr e) := ⟨E.ga e he, E.gg e he, E.ex e he, E.hd e he⟩
section
variable {X : Cx} {c : Am.Ctx} {W : WX} {sg : List Bool} {a b d e : Expr} {st : Stmt} {rest body : List Stmt} {es : List Expr} {pos pos' p p2 : Pos} {m ma : ME} {ms : MEs} {s : MS} {ss : MSs} {k L : Nat}
/-- try: body / except x as n: y = n.f -/
theorem s_tryF {x n y f : Str} {np np2 yp ap fp : Pos} {L : Nat} (B : Bd X L W) (E : EK X.K) (cn jf i j : Nat) (hcn : cn < 6) (hjf : jf < 6) (hf2 : CN.fld jf = f) (hm : X.mg x = some (.ref (CN.adr cn))) (hsub : ∀ e, c.sub e cn = CN.sub e cn)
    (hb : ∀ (W' : WX) (pn : List (Addr × Obj)) (xe : Value → Shared → Prop), Takes (X.tr pn xe) W' → PassesOwn (model X.prog X.w) X.A X.env xe → PSs (X.tr pn xe) body (tSs X.K (rxC X.K) c W' sg ss))
    (hs : X.stack = X.env :: X.outer := by rfl) (hf : X.env.frame = some X.env.locals := by rfl) (hi : X.N[i]? = some n := by rfl) (hln : X.env.kindOf n = some .local := by rfl) (hj : X.N[j]? = some y := by rfl) (hly : Loc X.env.scope y := by first | exact .inl rfl | exact .inr rfl)
    (hij : i ≠ j := by decide) (hgi : getL sg i = some true := by rfl) (hgj : getL sg j = some true := by rfl) (hg : Gl X x := by rfl) (hdx : (x == ("__debug__" : Str)) = false := by decide) (hdn : (n == ("__debug__" : Str)) = false := by decide) (hcd : (n == ("__classdict__" : Str)) = false := by decide)
    (hv : Vis X.env.scope n := by first | exact .inl rfl | exact .inr (.inl rfl) | exact .inr (.inr rfl))
    (hbase : attributeBase (.Name n np2) f X.env (eval (.Name n np2) X.env) = eval (.Name n np2) X.env := by rfl)
    (hsw : swapsWith (.Attribute (.Name n np2) f fp) (some (.Name y yp)) ap.line X.env = pure false := by rfl) (hfn : X.fn y = true ∨ X.env.scope.names.lookup y = some .local := by first | exact .inl rfl | exact .inr rfl | assumption) :
    PS X (.Try body [.ExceptHandler (some (.Name x np)) (some n) [.Assign [.Name y yp] (.Attribute (.Name n np2) f fp) ap] pos'] [] [] pos) (tS X.K (rxC X.K) c W sg (.tryc ss cn i (.cons (.asg (.pl (.v j)) (.fld (.pl (.v i)) jf)) .nil))) :=
  PS.weak (ps_try_as (i := i) (tb := fun W' => tSs X.K (rxC X.K) c W' sg ss) (Wout := W) (ts := fun a cls d => tAsg (tXf a cls d (CN.adr jf) f (tVar i)) (gName j)) hs hf B.nd hi hln ⟨hg, hdx, .inl hm⟩ B.tk hb
    (fun a oe cls d pn hz hd => pss_one (ps_set (X := X.suite a ((a, oe) :: pn)) B.nd hj hly (pe_xf (E.xf hjf) (by rw [← hf2]; exact E.fl jf hjf) hz hd (pe_var hi hv hdn hcd) hbase) hsw hfn))) fun D σ H ⟨α, Z, F, N, X', I, w⟩ => by
    refine ⟨α, Z, F, N, _, ⟨I.rs, I.g, I.hN, I.hR, fun e ds α1 hx H' Z' F' σ' cls d t g' sm rs hr => ?_⟩, w⟩
    obtain ⟨he, rfl, ys, hxf, hys⟩ := hr
    refine ⟨CN.sub e cn, E.em e he cn hcn, fun hb a na => ?_, fun hb => ?_⟩
    · have hx : ifB (c.sub e cn) (wpSs c (.cons (.asg (.pl (.v j)) (.fld (.pl (.v i)) jf)) .nil) (setS α1 i (some (.p (.exc e ds)))) ⟨fun α2 => N.nx (setS α2 i none), N.rt⟩ X') (X' e ds α1) := hx
      rw [hsub, hb] at hx
      have hx : plQ (.v i) (setS α1 i (some (.p (.exc e ds)))) (fun v α2 => match v with
        | .p (.exc e ds) => (match ds with
          | [d] => Nat.beq e jf = true ∧ frc (setS α2 j (some (.p d))) fun α1 => N.nx (setS α1 i none)
          | _ => False)
        | _ => False) := hx
      -- the slot
      by_cases hil : i < α1.length
      · have eg : getS (setS α1 i (some (.p (.exc e ds)))) i = some (.p (.exc e ds)) := getS_setS hil
        unfold plQ at hx
        simp only [getP] at hx
        rw [eg] at hx
        match ds, hys, hx with
        | [dd], hys, hx =>
          obtain ⟨ej, hx2⟩ : Nat.beq e jf = true ∧ frc (setS (setS α1 i (some (.p (.exc e [dd])))) j (some (.p dd))) fun α1 => N.nx (setS α1 i none) := hx
          rw [frc_eq] at hx2
          have ej := Nat.eq_of_beq_eq_true ej
          subst ej
          obtain ⟨x', q', ey, hy, hq⟩ := hys
          cases hq
          subst ey
          obtain ⟨da, fs, e1, e2, e3⟩ := hxf
          have hσ : (σ'.set i (some (V.ref a)))[i]? = some (some (.ref a)) := by
            rw [List.getElem?_set_self (by rw [← rs.len]; exact hil)]
          refine ⟨.ref a, hσ, rfl, rfl, da, fs, x', e1, e2, by rw [← hf2]; exact e3, ?_⟩
          obtain ⟨F2, r2, rs2, p2⟩ := rs.putN (i := i) (y := some (.ref a))
          obtain ⟨F3, r3, rs3, p3⟩ := rs2.putV (i := j) (v := .p dd) ⟨hy, rfl⟩
          obtain ⟨F4, r4, rs4, p4⟩ := rs3.putN (i := i) (y := none)
          have pp : F'.Perm (F4 ++ (r4 ++ r3 ++ r2)) := by
            rw [List.append_nil] at p3
            refine p2.trans ?_
            refine (List.Perm.append_right r2 (p3.trans (List.Perm.append_right r3 p4))).trans ?_
            simp [List.append_assoc]
          have es : setS (setS (setS α1 i none) j (some (.p dd))) i none = setS (setS (setS α1 i (some (.p (.exc e [dd])))) j (some (.p dd))) i none := by
            rw [setS_com α1 none (some (.p dd)) hij, setS_setS, setS_com α1 (some (.p (.exc e [dd]))) (some (.p dd)) hij, setS_setS]
          rw [es] at rs4
          refine I.hN _ hx2 _ Z' F4 _ ((t.permR pp).lessR fun _ h => List.mem_append_left _ h) (g'.perm pp).left ?_ rs4
          exact ((sm.trans (.set hgi)).trans (.set hgj)).trans (.set hgi)
      · rw [setS_out hil] at hx
        exfalso
        unfold plQ at hx
        simp only [getP] at hx
        have : getS α1 i = none := getS_out hil
        rw [this] at hx
        exact hx
    · have hx : ifB (c.sub e cn) _ (X' e ds α1) := hx
      rw [hsub, hb] at hx
      exact I.hX e ds α1 hx H' Z' F' σ' _ d t g' sm rs ⟨he, rfl, ys, hxf, hys⟩
end
section
variable {X : Cx} {c : Am.Ctx}
theorem dec_str (i : Int) : (Str.ofString (toString i) : Str) = sT (decT i) := by
  rw [Str.ofString_eq_toList]
  rfl
/-- str of a whole number, of a text -/
theorem cr_str : CallR X (.type "str") (rBi X.K c .toStr) := fun pins s σ H xs us Q I r ⟨Z, vs, k, zt, rl, w, res⟩ => by
  match vs, w, rl with
  | [v], w, rl =>
    obtain ⟨x, F, rfl, ra⟩ := rl.one'
    cases v with
    | p d =>
      cases d with
      | int i =>
        obtain ⟨hz, w⟩ : i.natAbs.log2 < 1920 ∧ k (.p (.str (decT i))) := w
        refine call_str_int pins s σ H _ us Q I r ⟨i, by rw [ra_int ra], hz, ?_⟩
        have := res.d (x := .str (sT (decT i))) w rfl
        rw [← dec_str] at this
        exact this
      | str t => exact SkE.call_str_str pins s σ H _ us Q I r ⟨sT t, by rw [ra_str ra], res.d (show k (.p (.str t)) from w) rfl⟩
      | _ => exact w.elim
    | _ => exact w.elim
end
end Am

set_option maxHeartbeats 4000000
namespace L2
open PySem PySem.Spec PyProof.Rows
section
variable {X : Cx} {CX : CXT} {k : Nat} {f C : Addr} {m : Str} {fd : FuncData} {ps : List Str} {sp : Sp} {E : St → XK} {e o : Expr} {es : List Expr} {ta : TE} {t : TA} {p apos pos : Pos}
/-- o.m(e, ..), with what leaves it told at the slots -/
def tMethS' (C : Addr) (m : Str) (sp : Sp) (E : St → XK) (ta : TE) (t : TA) : TE := fun σ H Q => ta σ H fun x H1 => ∃ a dx fs, x = .ref a ∧ H1 a = some (.ins C dx fs) ∧ fs.lookup m = none ∧
  t σ H1 fun vs H2 => sp (x :: vs) H2 Q (E σ)
theorem pe_methE {pl : Sem Bool} (he : PE X o ta) (c : Cls X.K C) (hm : Meth X.K C m f) (F : FnOk X.prog X.w X.K X.mg X.base CX k f fd ps sp) (hr : Room k X.A) (hb : Binds X.K fd ps []) (hx : ∀ σ, PassesAt CX X σ (E σ)) (ha : PA X (e :: es) t)
    (hst : starEach (e :: es) X.env = (false, eval e X.env) :: starEach es X.env := by rfl) (hpl : (backTo pos (starEach es X.env)).any (·.1) = false := by rfl)
    (ht : eval (.Call (.Attribute o m apos) (e :: es) [] pos) X.env = (do
      let ov ← eval o X.env
      standAt apos.atName
      let (f, first) ← holding [ov] (getMethod ov m pl)
      callWith pos f first (backTo pos (starEach (e :: es) X.env)) (backToKw pos (keywordEach [] X.env))) := by rfl) :
    PE X (.Call (.Attribute o m apos) (e :: es) [] pos) (tMethS' C m sp E ta t) := by
  refine ⟨fun pins s σ H Q I h => ?_⟩
  refine PySem.W.methodCall_KW (pl := pl) (thn (he.run pins s σ H _ I h) fun u s1 ⟨x, H1, I1, rx, a, dx, fs, ex, ea, l, q⟩ => ?_) ht
  subst ex
  obtain rfl : u = Value.ref a := rx
  refine getmeth_ok I1 ea c hm l ?_
  refine PySem.W.callWith_K (first := [.ref a]) (h₀ := X.base) I.ok.mod.kin hm.kp (thn (ha.run pos pins s1 σ H1 _ I1 q) fun us s2 ⟨vs, H2, I2, r, q2⟩ => ⟨I2.kIn, ?_⟩) hst hpl
  exact run_fnS (us := .ref a :: us) (vs := .ref a :: vs) F hr hb (hx σ) I2 (.cons rfl r) q2
theorem pe_methE0 {pl : Sem Bool} (he : PE X o ta) (c : Cls X.K C) (hm : Meth X.K C m f) (F : FnOk X.prog X.w X.K X.mg X.base CX k f fd ps sp) (hr : Room k X.A) (hb : Binds X.K fd ps []) (hx : ∀ σ, PassesAt CX X σ (E σ))
    (ht : eval (.Call (.Attribute o m apos) [] [] pos) X.env = (do
      let ov ← eval o X.env
      standAt apos.atName
      let (f, first) ← holding [ov] (getMethod ov m pl)
      callWith pos f first (backTo pos (starEach [] X.env)) (backToKw pos (keywordEach [] X.env))) := by rfl) :
    PE X (.Call (.Attribute o m apos) [] [] pos) (tMethS' C m sp E ta tNil) := by
  refine ⟨fun pins s σ H Q I h => ?_⟩
  refine PySem.W.methodCall_KW (pl := pl) (thn (he.run pins s σ H _ I h) fun u s1 ⟨x, H1, I1, rx, a, dx, fs, ex, ea, l, q⟩ => ?_) ht
  subst ex
  obtain rfl : u = Value.ref a := rx
  refine getmeth_ok I1 ea c hm l ?_
  exact PySem.W.callWith_K0 (first := [.ref a]) I1.kIn hm.kp (run_fnS (us := [.ref a]) (vs := [.ref a]) F hr hb (hx σ) I1 (.cons rfl .nil) q)
end
end L2
namespace Am
open PySem PySem.Spec PyProof.Rows L2
variable [CN]
theorem onOi.el {v : AV} {c : Nat} {A : Prop} (h : onOi v c A) : (∃ fs, v = .oi c fs) ∧ A := by
  cases v with
  | oi d fs =>
    have h : (match Nat.beq d c with | true => A | false => False) := h
    cases e : Nat.beq d c with
    | true => rw [e] at h; exact ⟨⟨fs, by rw [beq_el e]⟩, h⟩
    | false => rw [e] at h; exact h.elim
  | _ => exact h.elim
/-- class k has one field, f -/
structure ClsK (K : PySem.W.Frag) (k : Nat) (f : Str) : Prop where
  c : Cls K (CN.cad k)
  fl : CN.cfl k = [f]
  no : NoAttr K (CN.cad k) f
theorem Shell.one {K : PySem.W.Frag} {H : Hp} {Z : ZP} {k : Nat} {f : Str} {a : Addr} {vs : List V} (C : ClsK K k f) (h : Shell H Z (k + 2) a vs) : ∃ y dx, vs = [y] ∧ H a = some (.ins (CN.cad k) dx [(f, y)]) := by
  obtain ⟨_, hl, dx, ha⟩ := h
  rw [C.fl] at hl ha
  match vs, hl with
  | [y], _ => exact ⟨y, dx, rfl, ha⟩
section
variable {X : Cx} {rx : RX} {c : Am.Ctx} {W : WX} {a b d e o : Expr} {rest es : List Expr} {pos : Pos} {ma mb md : ME} {ms : MEs} {p : Pl}
/-- o.f, o a place -/
theorem s_fldP {f : Str} {k : Nat} (C : ClsK X.K k f) (ho : PE X o (tO X.K rx c W (.pl p))) (hb : attributeBase o f X.env (eval o X.env) = eval o X.env := by rfl) : PE X (.Attribute o f pos) (tO X.K rx c W (.pl (.f p (k + 2) 0))) :=
  PE.weak (pe_fld ho hb) fun σ H Q ⟨x, ⟨ad, vs, hp, sh, ev⟩, q⟩ => by
    obtain ⟨y, dx, rfl, ha⟩ := sh.one C
    cases ev
    exact tPl_of hp ⟨ad, _, dx, _, x, rfl, ha, C.c, C.no, by simp [List.lookup], q⟩
/-- x[i], x a list of objects -/
theorem s_at {i : Nat} {x : Str} {px : Pos} (hi : PE X b (tE X.K rx c W mb)) (hN : X.N[i]? = some x := by rfl) (hv : Vis X.env.scope x := by first | exact .inl rfl | exact .inr (.inl rfl) | exact .inr (.inr rfl)) (hd : (x == ("__debug__" : Str)) = false := by decide) (hcd : (x == ("__classdict__" : Str)) = false := by decide)
    (hs : PlainIx b := by intro _ _; rfl) : PE X (.Subscript (.Name x px) b pos) (tO X.K rx c W (.at (.v i) mb)) :=
  PE.weak (pe_ix ix_list (pe_var hN hv hd hcd) hi hs) fun σ H Q h => by
    obtain ⟨z, hz, h⟩ : tVar i σ H fun z H0 => tE X.K rx c W mb σ H0 fun y H1 => ∃ (n : Nat) (ad : Addr) (vs : List V) (x : V), y = .int n ∧ z = .ref ad ∧ Shell H1 (fun _ => True) 0 ad vs ∧ vs[n]? = some x ∧ Q x H1 := h
    refine ⟨z, hz, tE.mono h fun y H1 ⟨n, ad, vs, u, ey, ez, sh, ev, q⟩ => ⟨ad, vs, n, u, ez, ey, .inl (.inl sh.2), ?_, q⟩⟩
    exact atI_nat ev
theorem call_core {K : PySem.W.Frag} {f : Nat} {σ : L2.St} {H H1 : Hp} {Z Z1 : ZP} {F F1 Fx : List Addr} {α α1 : Sl} {P : VP} {X' : XP} {Q : VK} {vs : List AV} {xs : List V} (I : In K rx W σ H Z F α P X' Q) (s1 : Step H Z F H1 Z1 (F1 ++ Fx)) (g1 : G3 H1 Z1 (F1 ++ Fx)) (rs1 : RS K H1 Z1 α1 σ F1)
    (o1 : OpdL K H1 Z1 σ ms vs xs Fx) {bs : List AV} {ys : List V} (hb : ∃ ds, bs = ds.map .p ∧ RDs K H1 Z1 ds ys)
    (w1 : takeA (c.sig f) ms vs α1 fun as α2 => c.call f (as ++ bs) (fun r ws => frc (backA ms vs as ws α2) (P r)) fun e ds ws => X' e ds (backA ms vs as ws α2)) : spA K rx (c.call f) (xs ++ ys) H1 Q (WE W σ) := by
  obtain ⟨as, Fs, α2, F2, Z2, rl, rs2, s2, g2, w2⟩ := o1.take rs1 g1 w1
  have gs : G3 H1 Z2 (Fs ++ F2) := g2.perm List.perm_append_comm
  have ss : Step H Z F H1 Z2 (Fs ++ F2) := (s1.trans s2).permR List.perm_append_comm
  obtain ⟨ds, rfl, rd⟩ := hb
  have rd2 : RDs K H1 Z2 ds ys := RDs.keep (s2.keep g1) ds rd
  have rl2 : RL K H1 Z2 (as ++ ds.map .p) (xs ++ ys) Fs := by
    have key : ∀ {as : List AV} {xs : List V} {Fs : List Addr}, RL K H1 Z2 as xs Fs → RL K H1 Z2 (as ++ ds.map .p) (xs ++ ys) Fs := by
      intro as
      induction as with
      | nil =>
        intro xs Fs h
        obtain ⟨rfl, rfl⟩ := h
        have k2 : ∀ {ds : List D} {ys : List V}, RDs K H1 Z2 ds ys → RL K H1 Z2 (ds.map .p) ys [] := by
          intro ds
          induction ds with
          | nil => intro ys h; exact ⟨h, rfl⟩
          | cons d r ih =>
            rintro ys ⟨x, q, rfl, h1, h2⟩
            exact ⟨x, q, [], [], rfl, rfl, ⟨h1, rfl⟩, ih h2⟩
        exact k2 rd2
      | cons v r ih =>
        rintro xs Fs ⟨x, q, F1, F2, rfl, rfl, h1, h2⟩
        exact ⟨x, q ++ ys, F1, F2, rfl, rfl, h1, ih h2⟩
    exact key rl
  -- what the caller holds behind the call
  have back : ∀ {H' : Hp} {Z' : ZP} {ws : List (Option AV)} {Fo Fr : List Addr}, Step H1 Z2 Fs H' Z' (Fo ++ Fr) → G3 H' Z' (Fo ++ Fr) → RAs K H' Z' ws ((xs ++ ys).map some) Fo →
      ∃ F3, RS K H' Z' (backA ms vs as ws α2) σ F3 ∧ Step H Z F H' Z' (F3 ++ Fr) ∧ G3 H' Z' (F3 ++ Fr) := fun {H' Z' ws Fo Fr} s3 g3 ro => by
    have s4 := s3.beside gs
    have g4 := G3.beside gs s3 g3
    rw [List.map_append] at ro
    obtain ⟨F3, rest, rs3, p3⟩ := OpdL.back ((s2.keep g1).trans ((s3.beside gs).keep gs)) o1 (rs2.frame gs.left s3 gs.dis) ro rl.len
    have pp : ((Fo ++ Fr) ++ F2).Perm ((F3 ++ Fr) ++ rest) := by
      refine (List.Perm.append_right F2 List.perm_append_comm).trans ?_
      rw [List.append_assoc]
      refine (List.Perm.append_left Fr (List.perm_append_comm.trans p3)).trans ?_
      rw [← List.append_assoc]
      exact List.Perm.append_right rest List.perm_append_comm
    exact ⟨F3, rs3, ((ss.trans s4).permR pp).lessR fun _ h => List.mem_append_left _ h, (g4.perm pp).left⟩
  refine ⟨Z2, _, Fs, _, _, rl2, gs.left, w2, fun v ws hp H' Z' x Fo Fr s3 g3 ro ra => ?_, fun e ds ws hx H' Z' Fo cls d s3 g3 ro hr => ?_⟩
  · obtain ⟨F3, a1, a2, a3⟩ := back s3 g3 ro
    have hp : P v (backA ms vs as ws α2) := by
      have hp : frc (backA ms vs as ws α2) (P v) := hp
      rwa [frc_eq] at hp
    exact I.fin hp a2 a3 a1 ra
  · obtain ⟨F3, a1, a2, a3⟩ := back (Fr := []) (by rw [List.append_nil]; exact s3) (by rw [List.append_nil]; exact g3) ro
    rw [List.append_nil] at a2 a3
    exact I.hX e ds _ hx H' Z' F3 cls d a2 a3 a1 hr
/-- a method of class k, by its name -/
structure DefM (P : Program) (w : World) (K : PySem.W.Frag) (mg : Str → Option Value) (base : Heap) (rx : RX) (L : Nat) (call : List AV → FP → FX → Prop) (k : Nat) (m : Str) : Prop where
  ex : ∃ f fd ps, FnOk P w K mg base (L2.CX P w) L f fd ps (spA K rx call) ∧ Meth K (CN.cad k) m f ∧ Binds K fd ps []
theorem look_ne {f m : Str} {y : V} (h : (m == f) = false) : List.lookup m [(f, y)] = none := by
  simp [List.lookup, h]
theorem mcall_run {f k : Nat} {fn m : Str} {σ : L2.St} {H : Hp} {Q : VK} (C : ClsK X.K k fn) (hm : (m == fn) = false) {t : TA} (ct : ∀ σ H Q, tEl X.K rx c W ms σ H Q → t σ H Q) (h : tE X.K rx c W (.mcall f k ma ms) σ H Q) : tMethS' (CN.cad k) m (spA X.K rx (c.call f)) (WE W) (tO X.K rx c W ma) t σ H Q := by
  obtain ⟨α, Z, F, P, X', I, w⟩ := tE.el h
  refine I.opd rfl w fun v α1 H1 Z1 F1 x Fx w1 I1 s1 g1 o1 => ?_
  obtain ⟨v1, Fv, r1, w2⟩ := o1.fetch I1.rs w1
  obtain ⟨⟨fs, rfl⟩, w3⟩ := onOi.el w2
  obtain ⟨a, us, rfl, sh, _⟩ := r1
  obtain ⟨y, dx, rfl, ha⟩ := sh.one C
  refine ⟨a, dx, _, rfl, ha, look_ne hm, ?_⟩
  refine ct _ _ _ (I1.opds w3 fun vs α2 H2 Z2 F2 xs Fr w4 I2 s2 g2 o2 => ?_)
  have gg := G3.beside g1 s2 g2
  have st : Step H Z F H2 Z2 (F2 ++ (Fx ++ Fr)) := (s1.trans (s2.beside g1)).permR assoc3
  have g3 : G3 H2 Z2 (F2 ++ (Fx ++ Fr)) := gg.perm assoc3
  have := call_core (bs := []) (ys := []) I st g3 I2.rs (ms := .cons ma ms) (vs := v :: vs) (xs := .ref a :: xs) ⟨.ref a, xs, Fx, Fr, rfl, rfl, o1.frame g1 s2, o2⟩ ⟨[], rfl, rfl⟩ (by simpa only [List.append_nil] using w4)
  rw [List.append_nil] at this
  exact this
theorem s_mcall {f k L : Nat} {fn m : Str} {apos : Pos} (C : ClsK X.K k fn) (D : DefM X.prog X.w X.K X.mg X.base rx L (c.call f) k m) (hr : Room L X.A) (tk : Takes X W) (ho : PE X o (tO X.K rx c W ma)) (ha : PA X (e :: es) (tEl X.K rx c W ms)) {pl : Sem Bool} (hm : (m == fn) = false := by decide)
    (hst : starEach (e :: es) X.env = (false, eval e X.env) :: starEach es X.env := by rfl) (hpl : (backTo pos (starEach es X.env)).any (·.1) = false := by rfl)
    (ht : eval (.Call (.Attribute o m apos) (e :: es) [] pos) X.env = (do
      let ov ← eval o X.env
      standAt apos.atName
      let (f, first) ← holding [ov] (getMethod ov m pl)
      callWith pos f first (backTo pos (starEach (e :: es) X.env)) (backToKw pos (keywordEach [] X.env))) := by rfl) :
    PE X (.Call (.Attribute o m apos) (e :: es) [] pos) (tE X.K rx c W (.mcall f k ma ms)) := by
  obtain ⟨fa, fd, ps, F, hm2, hb⟩ := D.ex
  exact PE.weak (pe_methE (pl := pl) ho C.c hm2 F hr hb (fun σ => passAt tk σ) ha hst hpl ht) fun σ H Q h => mcall_run C hm (fun _ _ _ q => q) h
theorem s_mcall0 {f k L : Nat} {fn m : Str} {apos : Pos} (C : ClsK X.K k fn) (D : DefM X.prog X.w X.K X.mg X.base rx L (c.call f) k m) (hr : Room L X.A) (tk : Takes X W) (ho : PE X o (tO X.K rx c W ma)) {pl : Sem Bool} (hm : (m == fn) = false := by decide)
    (ht : eval (.Call (.Attribute o m apos) [] [] pos) X.env = (do
      let ov ← eval o X.env
      standAt apos.atName
      let (f, first) ← holding [ov] (getMethod ov m pl)
      callWith pos f first (backTo pos (starEach [] X.env)) (backToKw pos (keywordEach [] X.env))) := by rfl) :
    PE X (.Call (.Attribute o m apos) [] [] pos) (tE X.K rx c W (.mcall f k ma .nil)) := by
  obtain ⟨fa, fd, ps, F, hm2, hb⟩ := D.ex
  exact PE.weak (pe_methE0 (pl := pl) ho C.c hm2 F hr hb (fun σ => passAt tk σ) ht) fun σ H Q h => mcall_run C hm (fun _ _ _ q => tEl_nil q) h
theorem New.more {H H' : Hp} {Z Z' : ZP} {Fr : List Addr} (ext : ∀ a o, H a = some o → H' a = some o) (zs : ∀ a, Z a → Z' a) (zn : ∀ a, Z' a → Z a ∨ H a = none) (zt : ∀ a, Z' a → H' a ≠ none) (nd : Fr.Nodup) (nw : ∀ a ∈ Fr, H a = none) (ow : ∀ a ∈ Fr, Own (H' a)) (nz : ∀ a ∈ Fr, ¬ Z' a) : New H Z H' Z' Fr := fun F g => by
  have hF : ∀ a ∈ F, ∃ o, H a = some o := fun a ha => by
    cases e : H a with
    | none => exact absurd e (g.ow a ha).some'
    | some o => exact ⟨o, rfl⟩
  refine ⟨⟨fun a o h _ => ext a o h, fun a ha => ?_, zs, fun a z => ?_, fun a h => ?_⟩, ⟨?_, fun a ha z => ?_, fun a ha => ?_, zt⟩⟩
  · rcases List.mem_append.mp ha with h | h
    · exact .inl h
    · exact .inr (nw a h)
  · rcases zn a z with h | h
    · exact .inl h
    · exact .inr (.inr h)
  · cases e : H a with
    | none => exact absurd e h
    | some o => rw [ext a o e]; simp
  · refine List.nodup_append.mpr ⟨g.nd, nd, fun a h1 b h2 e => ?_⟩
    subst e
    obtain ⟨o, e⟩ := hF a h1
    rw [nw a h2] at e
    cases e
  · rcases List.mem_append.mp ha with h | h
    · rcases zn a z with q | q
      · exact g.nz a h q
      · obtain ⟨o, e⟩ := hF a h
        rw [q] at e
        cases e
    · exact nz a h z
  · rcases List.mem_append.mp ha with h | h
    · obtain ⟨o, e⟩ := hF a h
      rw [ext a o e, ← e]
      exact g.ow a h
    · exact ow a h
/-- K(): a new object of class k, its fields so -/
def NewO (X : Cx) (k : Nat) (x : Str) (fs : Sl) : Prop := ∀ {p pos : Pos}, Gl X x → (x == ("__debug__" : Str)) = false → PE X (.Call (.Name x p) [] [] pos) (fun _ H Q => ∃ Z kk, Zt H Z ∧ kk (AV.oi (k + 2) fs) ∧ ResP X.K H Z kk Q)
theorem s_new {x : Str} {k : Nat} {fs : Sl} {p : Pos} (N : NewO X k x fs) (hc : c.cls k = some fs) (hg : Gl X x := by rfl) (hd : (x == ("__debug__" : Str)) = false := by decide) : PE X (.Call (.Name x p) [] [] pos) (tE X.K rx c W (.new k)) :=
  PE.weak (N hg hd) fun σ H Q h => by
    obtain ⟨α, Z, F, P, X', I, w⟩ := tE.el h
    have w : onO (c.cls k) fun fs => P (.oi (k + 2) fs) α := w
    rw [hc] at w
    exact ⟨Z, fun v => P v α, I.g.zt, w, I.res⟩
theorem RL.somes {K : PySem.W.Frag} {H : Hp} {Z : ZP} : ∀ {as : List AV} {vs : List V} {F : List Addr}, RL K H Z as vs F → RAs K H Z (someL as) (vs.map some) F
  | [], _, _, ⟨rfl, rfl⟩ => ⟨rfl, rfl⟩
  | v :: r, _, _, ⟨x, q, F1, F2, e, ef, h1, h2⟩ => by
    subst e
    exact ⟨x, _, F1, F2, rfl, ef, h1, RL.somes h2⟩
theorem s_lstO (h : PA X es (tEs X.K rx c W ms)) : PE X (.List es pos) (tE X.K rx c W (.lstO ms)) := PE.weak (pe_lst h) fun σ H Q h => by
  obtain ⟨α, Z, F, P, X', I, w⟩ := tE.el h
  refine I.vals w fun vs α1 H1 Z1 F1 xs Fx w1 I1 s1 g1 r1 => ?_
  obtain ⟨hz, w2⟩ := w1
  refine ⟨by rw [← r1.len, ← big_eq]; exact hz, fun p hp => ?_⟩
  have ext : ∀ a o, H1 a = some o → upd H1 p (.lst xs) a = some o := fun a o ha => by rw [upd_ne (fun q => by rw [q, hp] at ha; cases ha)]; exact ha
  have n : New H1 Z1 (upd H1 p (.lst xs)) (fun a => Z1 a ∨ a = p) [] := New.more ext (fun _ z => .inl z) (fun a z => z.imp id fun q => by rw [q]; exact hp) (fun a z => by
    rcases z with z | z
    · by_cases q : a = p
      · rw [q, upd_same]; simp
      · rw [upd_ne q]; exact g1.zt a z
    · rw [z, upd_same]; simp) List.nodup_nil (fun _ h => by simp at h) (fun _ h => by simp at h) (fun _ h => by simp at h)
  obtain ⟨st, gg⟩ := n (F1 ++ Fx) g1
  rw [List.append_nil] at st gg
  have rs2 := I1.rs.new n g1.zt
  have rl : RAs X.K (upd H1 p (.lst xs)) (fun a => Z1 a ∨ a = p) (someL vs) (xs.map some) Fx := (r1.somes).frame (g0 g1.zt) (n.step g1.zt) fun _ _ => by simp
  exact I.fin w2 (s1.trans st) gg rs2 ⟨p, xs, rfl, ⟨.inr rfl, upd_same⟩, rl⟩
mutual
theorem RA.deep {K : PySem.W.Frag} {H : Hp} {Z : ZP} : ∀ {v : AV} {x : V} {F : List Addr} {d : D}, RA K H Z v x F → deepD v = some d → RD K H (fun a => Z a ∨ a ∈ F) d x
  | .p d', x, F, d, h, e => h.toD (d := d) e
  | .ol ds, x, F, d, h, e => h.toD (d := d) e
  | .od kvs, x, F, d, h, e => h.toD (d := d) e
  | .ld _ _, _, _, _, _, e => by cases e
  | .ll _ _, _, _, _, _, e => by cases e
  | .oi 0 fs, x, F, d, ⟨a, vs, ex, sh, r⟩, e => by
    have e : (match deepL fs with
      | some ds => some (.lst ds)
      | none => none) = some d := e
    cases el : deepL fs with
    | none => rw [el] at e; cases e
    | some ds =>
      rw [el] at e
      cases e
      exact ⟨a, vs, ex, .inl ⟨.inl sh.1, .inl sh.2⟩, RAs.deep r el⟩
  | .oi 1 fs, x, F, d, ⟨a, vs, ex, sh, r⟩, e => by
    have e : (match deepL fs with
      | some ds => some (.tup ds)
      | none => none) = some d := e
    cases el : deepL fs with
    | none => rw [el] at e; cases e
    | some ds =>
      rw [el] at e
      cases e
      exact ⟨a, vs, ex, sh, RAs.deep r el⟩
  | .oi (_ + 2) _, _, _, _, _, e => by cases e
theorem RAs.deep {K : PySem.W.Frag} {H : Hp} {Z : ZP} : ∀ {α : List (Option AV)} {vs : List V} {F : List Addr} {ds : List D}, RAs K H Z α (vs.map some) F → deepL α = some ds → RDs K H (fun a => Z a ∨ a ∈ F) ds vs
  | [], vs, _, ds, ⟨h, _⟩, e => by
    cases e
    exact List.map_eq_nil_iff.mp h
  | none :: _, _, _, _, _, e => by cases e
  | some v :: r, vs, F, ds, ⟨x, q, F1, F2, e1, ef, h1, h2⟩, e => by
    subst ef
    have e : (match deepD v, deepL r with
      | some d, some q => some (d :: q)
      | _, _ => none) = some ds := e
    cases ed : deepD v with
    | none => rw [ed] at e; cases e
    | some d =>
      cases el : deepL r with
      | none => rw [ed, el] at e; cases e
      | some q' =>
        rw [ed, el] at e
        cases e
        match vs, e1 with
        | y :: ys, e1 =>
          simp only [List.map_cons, List.cons.injEq, Option.some.injEq] at e1
          obtain ⟨rfl, rfl⟩ := e1
          exact ⟨y, ys, rfl, RD.keep (.z fun a z => z.imp id fun z => List.mem_append_left _ z) d (RA.deep h1 ed), RDs.keep (.z fun a z => z.imp id fun z => List.mem_append_right _ z) q' (RAs.deep h2 el)⟩
end
theorem s_frz (h : PE X e (tE X.K rx c W ma)) : PE X e (tE X.K rx c W (.frz ma)) := PE.weak h fun σ H Q h => by
  obtain ⟨α, Z, F, P, X', I, w⟩ := tE.el h
  refine I.val w fun v α1 H1 Z1 F1 x Fx w1 I1 s1 g1 r1 => ?_
  obtain ⟨d, ed, w2⟩ := onO.el w1
  have I2 := I.frz s1 g1 I1.rs
  exact I2.now w2 (r1.deep ed)
end
end Am

set_option maxHeartbeats 4000000
namespace Am
open PySem PySem.W
section
variable {prog : Program} {w : World} {A : Around} {E : Value → Shared → Prop} {s : Shared}
/-- the iterator of a dict's items: x tells which pair it holds for itself -/
abbrev ItI (h : Heap) (it : Addr) (x : Value) (f : Bool) (d : Addr) (i n ep : Nat) (ok ov : Value) : Prop :=
  h.get? it = some { cls := .type "dict_itemiterator", dict := none, data := .fields #[x, .bool f, .ref d, .int i 0, .int n 0, .int ep 0, ok, ov], slots := #[] }
/-- none yet, or one -/
def ItO (x : Value) : Prop := x = .none ∨ ∃ a : Nat, x = rawInt a
theorem it_alive {a : Nat} {Q : Option Obj → Shared → Prop} (h : Q (s.heap.get? a) s) : wpAny (model prog w) A (loadIfAlive a) Q E s := fun _ _ _ => h
/-- a pair of its own, or a new one: always a new one here -/
theorem it_pair {it d : Addr} {x : Value} {f : Bool} {i n ep : Nat} {ok ov k v : Value} {Q : Value → Shared → Prop} (hi : ItI s.heap it x f d i n ep ok ov) (ho : ItO x)
    (hQ : ∀ h' x' f' ok' ov', ItI h' it x' f' d i n ep ok' ov' → ItO x' → h'.get? s.heap.objs.size = some { cls := .type "tuple", data := .seq #[k, v] } → h'.objs.size = s.heap.objs.size + 1 →
      (∀ b o, b ≠ it → s.heap.get? b = some o → h'.get? b = some o) → Q (.ref s.heap.objs.size) { s with heap := h' }) : wpAny (model prog w) A (Builtin.Dict_items.pairFromOwner (.ref it) 6 k v) Q E s := by
  obtain ⟨hp, g, dr, tk, os⟩ := s
  have lt : it < hp.objs.size := Heap.lt_size hi
  unfold Builtin.Dict_items.pairFromOwner
  refine wpAny_bind (wpAny_newTuple ?_)
  generalize e2 : hp.push { cls := .type "tuple", data := .seq #[k, v] } = h2
  have i2 : ItI h2 it x f d i n ep ok ov := by rw [← e2]; exact Heap.get?_push_of_some _ hi
  have t2 : h2.get? hp.objs.size = some { cls := .type "tuple", data := .seq #[k, v] } := by rw [← e2]; exact Heap.get?_push_size _ rfl
  have z2 : h2.objs.size = hp.objs.size + 1 := by rw [← e2, Heap.size_push]
  have k2 : ∀ b o, hp.get? b = some o → h2.get? b = some o := fun b o e => by rw [← e2]; exact Heap.get?_push_of_some _ e
  clear e2
  have ne : hp.objs.size ≠ it := Nat.ne_of_gt lt
  have own : wpAny (model prog w) A (do
      let old := [← field (.ref it) 6, ← field (.ref it) (6 + 1)]
      setField (.ref it) 6 k; setField (.ref it) (6 + 1) v
      setField (.ref it) 0 (rawInt hp.objs.size); setField (.ref it) 1 (.bool false)
      letGo old [.ref hp.objs.size]
      return Value.ref hp.objs.size) Q E ⟨h2, g, dr, tk, os⟩ := by
    refine wpAny_bind (wpAny_field i2 rfl (x := ok) rfl (wpAny_bind (wpAny_field i2 rfl (x := ov) rfl ?_)))
    refine wpAny_bind (wpAny_setField_rec i2 (by simp) fun h3 i3 s3 => wpAny_bind (wpAny_setField_rec i3 (by simp) fun h4 i4 s4 => wpAny_bind (wpAny_setField_rec i4 (by simp) fun h5 i5 s5 => wpAny_bind (wpAny_setField_rec i5 (by simp) fun h6 i6 s6 => ?_))))
    have j6 : ItI h6 it (rawInt hp.objs.size) false d i n ep k v := i6
    have q6 : ∀ b, b ≠ it → ∀ o, h2.get? b = some o → h6.get? b = some o := fun b hb o e => s6.extBut b o hb (s5.extBut b o hb (s4.extBut b o hb (s3.extBut b o hb e)))
    refine wpAny_bind (wpAny_letGo (wpAny_pure (hQ h6 _ _ _ _ j6 (.inr ⟨hp.objs.size, rfl⟩) (q6 _ ne _ t2) ?_ fun b o hb e => q6 b hb o (k2 b o e))))
    exact s6.1.trans (s5.1.trans (s4.1.trans (s3.1.trans z2)))
  refine wpAny_bind ?_
  unfold Builtin.Dict_items.ownedTupleIsFree
  rcases ho with rfl | ⟨a, rfl⟩
  · refine wpAny_bind (wpAny_field i2 rfl (x := .none) rfl (wpAny_pure ?_))
    simp only [if_true]
    exact own
  · refine wpAny_bind (wpAny_field i2 rfl (x := rawInt a) rfl ?_)
    show wpAny _ _ (loadIfAlive ((a : Int).toNat) >>= _) _ _ _
    rw [Int.toNat_natCast]
    refine wpAny_bind (it_alive ?_)
    cases ea : h2.get? a with
    | none =>
      dsimp only
      simp only [Option.isNone_none, if_true]
      refine wpAny_pure ?_
      simp only [if_true]
      exact own
    | some o =>
      dsimp only
      simp only [Option.isNone_some, Bool.false_eq_true, if_false]
      refine wpAny_bind (wpAny_field i2 rfl (x := .bool f) rfl ?_)
      cases f with
      | true =>
        rw [if_neg (show ¬ ((Value.bool true != Value.bool true) = true) from fun z => nomatch z)]
        refine wpAny_pure ?_
        simp only [Bool.false_eq_true, if_false]
        exact wpAny_pure (hQ h2 _ _ _ _ i2 (.inr ⟨a, rfl⟩) t2 z2 fun b o _ e => k2 b o e)
      | false =>
        rw [if_pos (show (Value.bool false != Value.bool true) = true from rfl)]
        refine wpAny_bind (wpAny_setField_rec i2 (by simp) fun h3 i3 s3 => wpAny_pure ?_)
        simp only [Bool.false_eq_true, if_false]
        have j3 : ItI h3 it (rawInt a) true d i n ep ok ov := i3
        have q3 : ∀ b, b ≠ it → ∀ o, h2.get? b = some o → h3.get? b = some o := fun b hb o e => s3.extBut b o hb e
        exact wpAny_pure (hQ h3 _ _ _ _ j3 (.inr ⟨a, rfl⟩) (q3 _ ne _ t2) (s3.1.trans z2) fun b o hb e => q3 b hb o (k2 b o e))
/-- what next gives, as enumerate asks it -/
theorem it_next {it d : Addr} {x : Value} {f : Bool} {i ep : Nat} {es : Array DictEntry} {ok ov : Value} {Q : Value → Shared → Prop} (hi : ItI s.heap it x f d i es.size ep ok ov) (ho : ItO x) (hm : s.heap.DictRaw d es ep) (hlt : i < es.size)
    (hQ : ∀ h' x' f' ok' ov', ItI h' it x' f' d (i + 1) es.size ep ok' ov' → ItO x' → h'.get? s.heap.objs.size = some { cls := .type "tuple", data := .seq #[es[i].key, es[i].val] } → h'.objs.size = s.heap.objs.size + 1 →
      (∀ b o, b ≠ it → s.heap.get? b = some o → h'.get? b = some o) → Q (.ref s.heap.objs.size) { s with heap := h' }) : wpAny (model prog w) A (Builtin.SmallTypes.nextOf (.ref it)) Q E s := by
  obtain ⟨hp, g, dr, tk, os⟩ := s
  obtain ⟨od, e1, _, e2⟩ := id hm
  have T : Shared.TypeIs ⟨hp, g, dr, tk, os⟩ (.ref it) "dict_itemiterator" := ⟨_, hi, rfl⟩
  unfold Builtin.SmallTypes.nextOf
  refine wpAny_bind (wpAny_callSpecial?_slot (name := Str.ofString "__next__") T F.slot_dict_itemiterator_next (wpAny_call_entry F.slot_dict_itemiterator_next T F.entry_dict_itemiterator_next ?_ (F.args_dict_itemiterator_next_1 _)))
  refine wpAny_bind (wpAny_pure (wpAny_bind (wpAny_bind ?_)))
  first | refine wpAny_bind (wpAny_typeNameOfWhole_itemiter T (wpAny_pure ?_)) | refine wpAny_bind (wpAny_typeNameOf_itemiter T (wpAny_pure ?_))
  refine wpAny_bind (wpAny_fieldsOf hi rfl ?_)
  simp only [show Builtin.Dict_items.ownsTuple "dict_itemiterator" = true by decide, if_true]
  show wpAny _ _ (if (Value.ref d == Value.none) = true then _ else _) _ _ _
  rw [if_neg (fun z => by cases z)]
  refine wpAny_bind (wpAny_pure (wpAny_bind (wpAny_dictEntries e1 e2 ?_)))
  rw [if_neg (by simp)]
  refine wpAny_bind (wpAny_pure (wpAny_bind (wpAny_dictEpoch e1 e2 ?_)))
  rw [if_neg (by simp)]
  refine wpAny_pure ?_
  simp only [show ¬ ((i : Int) < 0) from by omega, if_false, Int.toNat_natCast, Array.getElem?_eq_getElem hlt]
  refine wpAny_bind ?_
  first | refine wpAny_bind (wpAny_typeNameOfWhole_itemiter T (wpAny_pure ?_)) | refine wpAny_bind (wpAny_typeNameOf_itemiter T (wpAny_pure ?_))
  refine wpAny_bind (wpAny_isOneOf_itemiter T ?_)
  show wpAny _ _ (setField (.ref it) 3 (rawInt ((i : Int) + 1)) >>= _) _ _ _
  refine wpAny_bind (wpAny_setField_rec hi (by simp) fun h1 i1 s1 => ?_)
  have j1 : ItI h1 it x f d (i + 1) es.size ep ok ov := by
    have e : ((i + 1 : Nat) : Int) = (i : Int) + 1 := by omega
    unfold ItI
    rw [e]
    simpa [rawInt] using i1
  have T1 : Shared.TypeIs ⟨h1, g, dr, tk, os⟩ (.ref it) "dict_itemiterator" := ⟨_, j1, rfl⟩
  refine wpAny_bind (wpAny_holding (wpAny_bind (wpAny_isOneOf_itemiter T1 (wpAny_bind (wpAny_isOneOf_itemiter T1 ?_)))))
  show wpAny _ _ (Builtin.Dict_items.pairFromOwner (.ref it) 6 es[i].key es[i].val) _ _ ⟨h1, g, dr, tk, os⟩
  have z1 : h1.objs.size = hp.objs.size := s1.1
  refine it_pair (s := ⟨h1, g, dr, tk, os⟩) j1 ho fun h' x' f' ok' ov' a1 a2 a3 a4 a5 => ?_
  dsimp only at a3 a4 a5 ⊢
  rw [z1] at a3 a4 ⊢
  exact wpAny_pure ⟨_, rfl, wpAny_pure (hQ h' x' f' ok' ov' a1 a2 a3 a4 fun b o hb e => a5 b o hb (s1.extBut b o hb e))⟩
theorem it_stop {it d : Addr} {x : Value} {f : Bool} {i ep : Nat} {es : Array DictEntry} {ok ov : Value} (hh : A.handled = none) (hi : ItI s.heap it x f d i es.size ep ok ov) (hm : s.heap.DictRaw d es ep) (hge : es.size ≤ i)
    (Q : Value → Shared → Prop) (E : Value → Shared → Prop) (hE : ∀ h' ex, Heap.ExtBut it s.heap h' → (∃ o, h'.get? ex = some o ∧ o.cls = .type "StopIteration") → E (.ref ex) { s with heap := h' }) : wpAny (model prog w) A (Builtin.SmallTypes.nextOf (.ref it)) Q E s := by
  obtain ⟨od, e1, _, e2⟩ := id hm
  have T : s.TypeIs (.ref it) "dict_itemiterator" := ⟨_, hi, rfl⟩
  unfold Builtin.SmallTypes.nextOf
  refine wpAny_bind (wpAny_callSpecial?_slot (name := Str.ofString "__next__") T F.slot_dict_itemiterator_next (wpAny_call_entry F.slot_dict_itemiterator_next T F.entry_dict_itemiterator_next ?_ (F.args_dict_itemiterator_next_1 _)))
  refine wpAny_bind (wpAny_pure (wpAny_bind (wpAny_bind ?_)))
  first | refine wpAny_bind (wpAny_typeNameOfWhole_itemiter T (wpAny_pure ?_)) | refine wpAny_bind (wpAny_typeNameOf_itemiter T (wpAny_pure ?_))
  refine wpAny_bind (wpAny_fieldsOf hi rfl ?_)
  simp only [show Builtin.Dict_items.ownsTuple "dict_itemiterator" = true by decide, if_true]
  show wpAny _ _ (if (Value.ref d == Value.none) = true then _ else _) _ _ _
  rw [if_neg (fun z => by cases z)]
  refine wpAny_bind (wpAny_pure (wpAny_bind (wpAny_dictEntries e1 e2 ?_)))
  rw [if_neg (by simp)]
  refine wpAny_bind (wpAny_pure (wpAny_bind (wpAny_dictEpoch e1 e2 ?_)))
  rw [if_neg (by simp)]
  refine wpAny_pure ?_
  simp only [show ¬ ((i : Int) < 0) from by omega, if_false, Int.toNat_natCast, Array.getElem?_eq_none hge]
  refine wpAny_bind ?_
  first | refine wpAny_bind (wpAny_typeNameOfWhole_itemiter T (wpAny_pure ?_)) | refine wpAny_bind (wpAny_typeNameOf_itemiter T (wpAny_pure ?_))
  show wpAny _ _ (setField (.ref it) 2 .none >>= _) _ _ s
  refine wpAny_bind (wpAny_setField hi rfl (by simp) ?_)
  show wpAny _ _ (newExc (.type "StopIteration") [] >>= _) _ _ _
  refine wpAny_bind ?_
  simp only [newExc, newTuple]
  refine wpAny_bind (wpAny_newObj_type (wpAny_bind (m := firstArgMember _ _) (wpAny_of_eq (a := Value.none) (by first | rfl | (simp only [firstArgMember]; rfl)) ?_)) (by size_fits))
  refine wpAny_newObj_type ?_ (by size_fits)
  simp only [raiseNew]
  refine wpAny_bind (wpAny_handled ?_)
  first | rw [show A.in1.handled = none from hh] | rw [hh]
  exact wpAny_bind (wpAny_pure (wpAny_throw (hE _ _ (((Heap.SameBut.update ..).extBut.push _).push _) ⟨_, Heap.get?_push_size _ rfl, rfl⟩)))
/-- enumerate's turn over such an iterator -/
theorem en_next {e it d : Addr} {x : Value} {f : Bool} {i ep : Nat} {es : Array DictEntry} {ok ov old : Value} {c : Int} {Q : Option Value → Shared → Prop} (he : IsEnum s.heap e it c old) (hi : ItI s.heap it x f d i es.size ep ok ov) (ho : ItO x) (hm : s.heap.DictRaw d es ep) (hne : e ≠ it) (hlt : i < es.size)
    (hQ : ∀ h' tk x' f' ok' ov', IsEnumOut h' e it (c + 1) (.ref s.heap.objs.size) (s.heap.objs.size + 1) → ItI h' it x' f' d (i + 1) es.size ep ok' ov' → ItO x' → h'.get? s.heap.objs.size = some { cls := .type "tuple", data := .seq #[es[i].key, es[i].val] } →
      h'.get? (s.heap.objs.size + 1) = some { cls := .type "tuple", data := .seq #[.int c tk, .ref s.heap.objs.size] } → h'.objs.size = s.heap.objs.size + 2 → (∀ b o, b ≠ e → b ≠ it → s.heap.get? b = some o → h'.get? b = some o) → Q (some (.ref (s.heap.objs.size + 1))) { s with heap := h', toks := s.toks + 1 }) :
    wpAny (model prog w) A (pyNext (.ref e)) Q E s := by
  obtain ⟨hp, g, dr, tk, os⟩ := s
  have T : Shared.TypeIs ⟨hp, g, dr, tk, os⟩ (.ref e) "enumerate" := ⟨_, he, rfl⟩
  have le : e < hp.objs.size := Heap.lt_size he
  have li : it < hp.objs.size := Heap.lt_size hi
  unfold pyNext
  refine wpAny_bind (wpAny_attempt (wpAny_callSpecial?_slot (name := Str.ofString "__next__") T F.slot_enumerate_next (wpAny_call_entry F.slot_enumerate_next T F.entry_enumerate_next ?_ (F.args_enumerate_next_1 _))))
  show wpAny _ _ (field (.ref e) 2 >>= _) _ _ _
  refine wpAny_bind (wpAny_field he rfl (x := .ref it) rfl (wpAny_bind (it_next (s := ⟨hp, g, dr, tk, os⟩) hi ho hm hlt fun h1 x' f' ok' ov' a1 a2 a3 a4 a5 => ?_)))
  dsimp only at a3 a4 a5
  have e1 : IsEnum h1 e it c old := a5 e _ hne he
  show wpAny _ _ (field (.ref e) 3 >>= _) _ _ ⟨h1, g, dr, tk, os⟩
  refine wpAny_bind (wpAny_field e1 rfl (x := rawInt c) rfl ?_)
  show wpAny _ _ (field (.ref e) 4 >>= _) _ _ ⟨h1, g, dr, tk, os⟩
  refine wpAny_bind (wpAny_field e1 rfl (x := .none) rfl ?_)
  show wpAny _ _ (mkInt c >>= _) _ _ ⟨h1, g, dr, tk, os⟩
  refine wpAny_bind (wpAny_mkInt ?_)
  show wpAny _ _ (setField (.ref e) 3 (rawInt (c + 1)) >>= _) _ _ ⟨h1, g, dr, tk + 1, os⟩
  refine wpAny_bind (wpAny_setField_rec e1 (by simp) fun h2 e2 s2 => ?_)
  have e2 : IsEnum h2 e it (c + 1) old := e2
  show wpAny _ _ (setField (.ref e) 4 .none >>= _) _ _ ⟨h2, g, dr, tk + 1, os⟩
  refine wpAny_bind (wpAny_setField_rec e2 (by simp) fun h3 e3 s3 => ?_)
  have e3 : IsEnum h3 e it (c + 1) old := e3
  show wpAny _ _ (newTuple [.int c tk, .ref hp.objs.size] >>= _) _ _ ⟨h3, g, dr, tk + 1, os⟩
  refine wpAny_bind (wpAny_newTuple ?_)
  have z3 : h3.objs.size = hp.objs.size + 1 := s3.1.trans (s2.1.trans a4)
  have k3 : ∀ b o, b ≠ e → h1.get? b = some o → h3.get? b = some o := fun b o hb y => s3.extBut b o hb (s2.extBut b o hb y)
  generalize q4 : h3.push { cls := .type "tuple", data := .seq #[.int c tk, .ref hp.objs.size] } = h4
  have e4 : IsEnum h4 e it (c + 1) old := by rw [← q4]; exact Heap.get?_push_of_some _ e3
  have t4 : h4.get? (hp.objs.size + 1) = some { cls := .type "tuple", data := .seq #[.int c tk, .ref hp.objs.size] } := by rw [← q4, ← z3]; exact Heap.get?_push_size _ rfl
  have z4 : h4.objs.size = hp.objs.size + 2 := by rw [← q4, Heap.size_push, z3]
  have k4 : ∀ b o, b ≠ e → h1.get? b = some o → h4.get? b = some o := fun b o hb y => by rw [← q4]; exact Heap.get?_push_of_some _ (k3 b o hb y)
  show wpAny _ _ (Builtin.SmallTypes.ownedTupleIsFree (.ref e) >>= _) _ _ ⟨h4, g, dr, tk + 1, os⟩
  rw [z3]

  refine wpAny_bind ?_
  unfold Builtin.SmallTypes.ownedTupleIsFree
  refine wpAny_bind (wpAny_field e4 rfl (x := .none) rfl (wpAny_pure ?_))
  simp only [if_true]
  refine wpAny_bind (wpAny_rule (wpAny_bind (wpAny_field e4 rfl (x := old) rfl (wpAny_bind (wpAny_setField_rec e4 (by simp) fun h5 e5 s5 => ?_)))))
  have e5 : IsEnum h5 e it (c + 1) (.ref hp.objs.size) := e5
  show wpAny _ _ (Builtin.SmallTypes.ownedTupleHandOut (.ref e) (.ref (hp.objs.size + 1)) >>= _) _ _ ⟨h5, g, dr, tk + 1, os⟩
  refine wpAny_bind ?_
  unfold Builtin.SmallTypes.ownedTupleHandOut
  refine wpAny_bind (wpAny_setField_rec e5 (by simp) fun h6 e6 s6 => ?_)
  have e6 : IsEnumOut h6 e it (c + 1) (.ref hp.objs.size) (hp.objs.size + 1) := e6
  refine wpAny_setField_rec e6 (by simp) fun h7 e7 s7 => ?_
  have e7 : IsEnumOut h7 e it (c + 1) (.ref hp.objs.size) (hp.objs.size + 1) := e7
  have k7 : ∀ b o, b ≠ e → h4.get? b = some o → h7.get? b = some o := fun b o hb y => s7.extBut b o hb (s6.extBut b o hb (s5.extBut b o hb y))
  have n1 : hp.objs.size ≠ e := Nat.ne_of_gt le
  have n2 : hp.objs.size + 1 ≠ e := Nat.ne_of_gt (Nat.lt_succ_of_lt le)
  refine wpAny_bind (wpAny_letGo (wpAny_pure ⟨_, rfl, wpAny_pure (hQ h7 tk x' f' ok' ov' e7 (k7 it _ (Ne.symm hne) (k4 it _ (Ne.symm hne) a1)) a2 (k7 _ _ n1 (k4 _ _ n1 a3)) (k7 _ _ n2 t4) ?_ fun b o h1 h2 y => k7 b o h1 (k4 b o h1 (a5 b o h2 y)))⟩))
  show h7.objs.size = hp.objs.size + 2
  rw [s7.1, s6.1, s5.1, z4]
end
end Am
namespace Am
open PySem PySem.Spec PyProof.Rows L2
variable [CN]
/-- the pairs of a dict that is held, numbered: two new tuples -/
def IteI (d : Addr) (o : Obj) (kvs : List (L2.Key × V)) : It :=
  ⟨fun i H => H d = some (.frz o (.dK kvs)) ∧ i < kvs.length, fun i H x H' => ∃ (T T2 : Addr) (k : L2.Key) (v : V) (ob : Obj), kvs[i]? = some (k, v) ∧ x = .ref T2 ∧ H T = none ∧ H T2 = none ∧ T ≠ T2 ∧ ob.dict = none ∧ ob.cls = .type "tuple" ∧ H' = upd (upd H T (.frz ob (.tup [kV k, v]))) T2 (.tup [.int (i : Nat), .ref T]), fun i H => H d = some (.frz o (.dK kvs)) ∧ kvs.length ≤ i⟩
theorem turn_enumI {P : Program} {w : World} {K : PySem.W.Frag} {elts : List Expr} {kk : Nat} {tpos : Pos} {d : Addr} {o : Obj} {es : Array DictEntry} {ep : Nat} {kvs : List (L2.Key × V)} (e it : Addr) (hod : o.data = .dict es ep) :
    Turn P w K (.Tuple elts kk tpos) (IteI d o kvs) [e, it] e (fun i h => (∃ old, IsEnum h e it ((i : Nat) : Int) old) ∧ (∃ x f ok ov, ItI h it x f d i kvs.length ep ok ov ∧ ItO x) ∧ e ≠ it) where
  mem := by simp
  obj := fun i h st b hb => by
    obtain ⟨⟨old, he⟩, ⟨x, f, ok, ov, hi, _⟩, _⟩ := st
    have e' : b = e ∨ b = it := by simpa using hb
    rcases e' with z | z
    · rw [z]; exact ⟨_, he, fun v q => nomatch q⟩
    · rw [z]; exact ⟨_, hi, fun v q => nomatch q⟩
  keep := fun i h h' st k => let ⟨⟨old, he⟩, ⟨x, f, ok, ov, hi, ho⟩, hne⟩ := st; ⟨⟨old, k e (by simp) _ he⟩, ⟨x, f, ok, ov, k it (by simp) _ hi, ho⟩, hne⟩
  item := by
    intro X hP hw hK hc i pins s σ H E I hf st hg
    subst hP hw hK
    obtain ⟨hd, hi⟩ := hg
    obtain ⟨hs, hgd, hx, es', ep', vs, hdt, hsz, kv, hm⟩ := I.frzK hd
    obtain ⟨rfl, rfl⟩ := dict_ep hod hdt
    obtain ⟨⟨old, he⟩, ⟨x, f, ok, ov, hit, ho⟩, hne⟩ := st
    obtain ⟨⟨k, v⟩, hkv⟩ : ∃ p, kvs[i]? = some p := ⟨kvs[i], List.getElem?_eq_getElem hi⟩
    obtain ⟨u, hu, ru⟩ := kv_get kv hkv
    have hlt : i < es'.size := by rw [hsz]; exact hi
    have hr : s.heap.DictRaw d es' ep' := ⟨o, hgd, hx, hdt⟩
    rw [← hsz] at hit
    have hkey : keyIs k es'[i].key = true ∧ es'[i].val = u := by
      obtain ⟨o2, es2, ho2, hx2, hd2, _, hp, _⟩ := hm
      rw [hgd] at ho2
      cases ho2
      obtain ⟨rfl, _⟩ := dict_ep hdt hd2
      exact hp.get? (e := es2[i]) (by simp [hlt]) hu
    refine en_next (s := s) he hit ho hr hne hlt fun h' tk x' f' ok' ov' a1 a2 a3 a4 a5 a6 a7 => ?_
    refine ⟨_, rfl, wpAny_letOwnedTupleGo_enum (s := { s with heap := h', toks := s.toks + 1 }) a1 fun h'' he' sb => ?_⟩
    have le : e < s.heap.objs.size := Heap.lt_size he
    have li : it < s.heap.objs.size := Heap.lt_size hit
    generalize eT : s.heap.objs.size = T at *
    have b1 : h''.get? T = some { cls := .type "tuple", data := .seq #[es'[i].key, es'[i].val] } := (sb.2 _ (Nat.ne_of_gt le)).trans a4
    have b2 : h''.get? (T + 1) = some { cls := .type "tuple", data := .seq #[.int i tk, .ref T] } := (sb.2 _ (Nat.ne_of_gt (Nat.lt_succ_of_lt le))).trans a5
    have bi : ItI h'' it x' f' d (i + 1) es'.size ep' ok' ov' := (sb.2 _ (Ne.symm hne)).trans a2
    have nT : H T = none := I.hok.fresh (Nat.le_of_eq eT)
    have nT2 : H (T + 1) = none := I.hok.fresh (by rw [eT]; exact Nat.le_succ _)
    obtain ⟨G, g1, g2⟩ := restrict h'' fun b => decide (b ≠ T + 1)
    have gk : ∀ b o, b ≠ T + 1 → h''.get? b = some o → G.get? b = some o := fun b o hb e => by
      rw [g1 b (decide_eq_true hb)]
      exact e
    have gT : G.get? T = some { cls := .type "tuple", data := .seq #[es'[i].key, es'[i].val] } := gk _ _ (Nat.ne_of_lt (Nat.lt_succ_self T)) b1
    have old : ∀ b o, b ∉ [e, it] → s.heap.get? b = some o → h''.get? b = some o := fun b ob hb q => (sb.2 b (fun z => hb (by simp [z]))).trans (a7 b ob (fun z => hb (by simp [z])) (fun z => hb (by simp [z])) q)
    have v1 : Vals [kV k, v] [es'[i].key, es'[i].val] := .cons (relV_key hkey.1) (.cons (by rw [hkey.2]; exact ru) .nil)
    have I1 : Inv X pins σ (upd H T (.frz { cls := .type "tuple", data := .seq #[es'[i].key, es'[i].val] } (.tup [kV k, v]))) { s with heap := G, toks := s.toks + 1 } :=
      I.turnedNew (ch := [e, it]) (fun b ob hb q => gk b ob (Nat.ne_of_lt (Nat.lt_succ_of_lt (by rw [← eT]; exact Heap.lt_size q))) (old b ob hb q)) hf (Nat.le_of_eq eT) ⟨gT, by show 2 ≤ sizeLine; decide, [es'[i].key, es'[i].val], v1, ⟨_, gT, rfl, _, rfl⟩⟩
    have ne2 : T + 1 ≠ T := Nat.succ_ne_self T
    have n2 : upd H T (.frz { cls := .type "tuple", data := .seq #[es'[i].key, es'[i].val] } (.tup [kV k, v])) (T + 1) = none := by rw [upd_ne ne2]; exact nT2
    have I2 := Inv.laidN (h' := h'') (a := T + 1) (o := .tup [.int (i : Nat), .ref T]) (t' := s.toks + 1) I1 (fun b u q => by
      by_cases hb : b = T + 1
      · rw [hb] at q
        rw [g2 _ (decide_eq_false (fun z => z rfl))] at q
        cases q
      · rw [← g1 b (decide_eq_true hb)]; exact q) (g2 _ (decide_eq_false (fun z => z rfl))) n2 ⟨by show 2 ≤ sizeLine; decide, [.int i tk, .ref T], .cons ⟨_, rfl⟩ (.cons rfl .nil), ⟨_, b2, rfl, _, rfl⟩⟩
    refine ⟨.ref (T + 1), _, I2, rfl, ⟨T, T + 1, k, v, _, hkv, rfl, nT, nT2, Ne.symm ne2, rfl, rfl, rfl⟩, ⟨⟨.ref T, ?_⟩, ⟨x', f', ok', ov', ?_, a3⟩, hne⟩, fun b hb => ?_⟩
    · have e1 : ((i + 1 : Nat) : Int) = (i : Int) + 1 := by omega
      rw [e1]; exact he'
    · rw [← hsz]; exact bi
    · have hb' : b < T := by
        have e' : b = e ∨ b = it := by simpa using hb
        rcases e' with z | z
        · rw [z]; exact le
        · rw [z]; exact li
      rw [upd_ne (Nat.ne_of_lt (Nat.lt_succ_of_lt hb')), upd_ne (Nat.ne_of_lt hb')]
      exact (hf b hb).1
  done := by
    intro X hP hw hK hc i pins s σ H E I hf st hg
    subst hP hw hK
    obtain ⟨hd, hi⟩ := hg
    obtain ⟨hs, hgd, hx, es', ep', vs, hdt, hsz, kv, hm⟩ := I.frzK hd
    obtain ⟨rfl, rfl⟩ := dict_ep hod hdt
    obtain ⟨⟨old, he⟩, ⟨x, f, ok, ov, hit, ho⟩, hne⟩ := st
    rw [← hsz] at hit
    exact enum_stop I hf he fun Q E h => it_stop (A := X.A.in1) (show X.A.in1.handled = none from I.ok.hd hc) hit ⟨o, hgd, hx, hdt⟩ (by omega) Q E h
  self := fun A i s Q E st h => let ⟨⟨_, he⟩, _⟩ := st; wpAny_pyIter_enum he h
theorem begins_items (vw d : Addr) (es : Array DictEntry) (ep : Nat) : Begins (.ref vw) { cls := .type "dict_itemiterator", data := .fields #[.none, .bool false, .ref d, .int 0 0, .int es.size 0, .int ep 0, .none, .none] } fun h => h.IsItemsView vw d ∧ h.DictRaw d es ep where
  iter := fun prog w A E s Q h q => wpAny_pyIter_items_raw h.1 h.2 q
  keeps := fun h h' x hk => ⟨let ⟨o, ho, r⟩ := x.1; ⟨o, hk _ _ ho, r⟩, x.2.at fun o e => hk _ _ e⟩
  free := rfl
def iEnumI (td : TE) : TI := fun σ H R => td σ H fun x H1 => ∃ d o kvs, x = .ref d ∧ H1 d = some (.frz o (.dK kvs)) ∧ R (IteI d o kvs) H1
theorem pi_enumI {X : Cx} {e : Expr} {td : TE} {p pos tpos apos cpos : Pos} {elts : List Expr} {kk : Nat} (hg : Gl X "enumerate") (hm : X.mg "enumerate" = none) (he : PE X e td) (hbase : attributeBase e "items" X.env (eval e X.env) = eval e X.env := by rfl) (hline : (apos.endLine == cpos.line) = true := by rfl)
    (hs : starEach [.Call (.Attribute e "items" apos) [] [] cpos] X.env = [(false, eval (.Call (.Attribute e "items" apos) [] [] cpos) X.env)] := by rfl) :
    PI X (.Tuple elts kk tpos) (.Call (.Name "enumerate" p) [.Call (.Attribute e "items" apos) [] [] cpos] [] pos) (iEnumI td) := by
  refine ⟨fun pins s σ H R I h => ?_⟩
  refine Call_ (ld_blt I hg hm boot_enumerate (PyProof.Rows.callWith_type1 ?_ hs rfl))
  rw [hs]
  show wpAny _ _ (spliced ((false, eval (.Call (.Attribute e "items" apos) [] [] cpos) X.env) :: [])) _ _ s
  refine Calls.spliced_cons (wpAny_Call_method (T := "dict") (id := "dict.items") hbase rfl hline F.plainAttrs_dict F.slot_dict_items F.type_dict_items (thn (he.run pins s σ H _ I h) fun u s1 ⟨x, H1, I1, rx, d, o, kvs, ex, hd, q⟩ => ?_))
  subst ex
  obtain rfl : u = Value.ref d := rx
  obtain ⟨hs, hgd, hx, es, ep, vs, hdt, hsz, kv, hm⟩ := I1.frzK hd
  refine ⟨hm.dictOf.typeIs, hm.dictOf.mapOf.noDict, ?_⟩
  generalize e2 : s1.heap.push { cls := .type "dict_items", data := .fields #[.ref d] } = h2
  have k2 : ∀ b ob, s1.heap.get? b = some ob → h2.get? b = some ob := fun b ob q => by rw [← e2]; exact Heap.get?_push_of_some _ q
  have v2 : h2.get? s1.heap.objs.size = some { cls := .type "dict_items", data := .fields #[.ref d] } := by rw [← e2]; exact Heap.get?_push_size _ rfl
  have I2 : Inv X pins σ H1 { s1 with heap := h2 } := I1.kept (t' := s1.toks) k2
  have fr : ∀ b ∈ [h2.objs.size + 1, h2.objs.size], FpOk X pins H1 b := fun b hb => by
    have e' : b = h2.objs.size + 1 ∨ b = h2.objs.size := by simpa using hb
    have hle : h2.objs.size ≤ b := by
      rcases e' with z | z
      · rw [z]; exact Nat.le_add_right _ _
      · rw [z]; exact Nat.le_refl _
    exact I2.fpOk (s := { s1 with heap := h2 }) hle (I2.hok.fresh hle)
  refine method_meetsIn F.slot_dict_items F.entry_dict_items rfl (PySem.evalArgs_none ⟨rfl, hm.dictOf.typeIs, F.args_dict_items_1 _, _, meets_dict_items (mixKind X.prog X.w) d hs, ⟨vs, hm.dictOf⟩, ?_⟩)
  rw [e2]
  refine Calls.spliced_nil (call_enum1 (s := { s1 with heap := h2 }) (begins_items s1.heap.objs.size d es ep) ⟨⟨_, v2, rfl, rfl⟩, o, k2 _ _ hgd, hx, hdt⟩ fun h' he hit hsz' hk => wpAny_pyIter_enum he ?_)
  have I3 : Inv X pins σ H1 { s1 with heap := h' } := I2.kept (t' := s1.toks) hk
  refine ⟨h2.objs.size + 1, [h2.objs.size + 1, h2.objs.size], _, _, H1, rfl, I3, turn_enumI (h2.objs.size + 1) h2.objs.size hdt, ⟨⟨.none, he⟩, ⟨.none, false, .none, .none, ?_, .inl rfl⟩, Nat.succ_ne_self _⟩, fr, q⟩
  rw [← hsz]
  exact hit
section
variable {K : PySem.W.Frag} {H : Hp} {Z : ZP} {ts : MEs} {a : Addr} {o : Obj} {kvs : List (Am.Key × D)} {ws : List (L2.Key × V)}
theorem drw_enumI (zt : Zt H Z) (ha : H a = some (.frz o (.dK ws))) (r : RK K H Z kvs ws) : Drw K (IteI a o ws) (.tup ts) (enumD 0 (itemsD kvs)) H Z :=
  ⟨fun i hi => by
    rw [enumD_len, itemsD_len, r.len] at hi
    refine ⟨⟨ha, hi⟩, fun x H' hy => ?_⟩
    obtain ⟨T, T2, k, v, ob, e, rfl, hT, hT2, hne, hd, hc, rfl⟩ := hy
    obtain ⟨d, _, e1, h1, h2⟩ := r.at e
    have nn : New H Z (upd H T (.frz ob (.tup [kV k, v]))) Z [] := .dat hT
    have kp : Keep H Z (upd H T (.frz ob (.tup [kV k, v]))) Z := (Step.newT (F := []) hT).keep (g0 zt)
    have zt1 : Zt (upd H T (.frz ob (.tup [kV k, v]))) Z := fun b z => by
      by_cases q : b = T
      · rw [q, upd_same]; simp
      · rw [upd_ne q]; exact zt b z
    have in1 : RD K (upd H T (.frz ob (.tup [kV k, v]))) Z (.tup [kD d.1, d.2]) (.ref T) := ⟨T, [kV k, v], rfl, ⟨ob, upd_same, hd, hc⟩, _, _, rfl, RD.keep kp _ h1, _, _, rfl, RD.keep kp _ h2, rfl⟩
    obtain ⟨n1, n2⟩ := ry_pair (ts := ts) (T := T2) (d := .int (i : Nat)) (x := .int (i : Nat)) (e := .tup [kD d.1, d.2]) (y := .ref T) (by rw [upd_ne (Ne.symm hne)]; exact hT2) zt1 rfl in1
    refine ⟨_, by rw [enumD_at, e1]; rfl, fun F g => ?_, by simpa using n2⟩
    obtain ⟨a1, a2⟩ := nn F g
    rw [List.append_nil] at a1 a2
    obtain ⟨b1, b2⟩ := n1 F a2
    exact ⟨a1.trans b1, b2⟩, fun i hi => by rw [enumD_len, itemsD_len, r.len] at hi; exact ⟨ha, hi⟩⟩
end
section
variable {X : Cx} {rx : RX} {c : Am.Ctx} {W : WX} {e : Expr} {ts : MEs} {p : Pl} {es : List Expr} {kk : Nat} {pp pos tpos apos cpos : Pos}
theorem si_enumI (hm : X.mg "enumerate" = none) (he : PE X e (tO X.K rx c W (.pl p))) (hg : Gl X "enumerate" := by rfl) (hbase : attributeBase e "items" X.env (eval e X.env) = eval e X.env := by rfl) (hline : (apos.endLine == cpos.line) = true := by rfl)
    (hs : starEach [.Call (.Attribute e "items" apos) [] [] cpos] X.env = [(false, eval (.Call (.Attribute e "items" apos) [] [] cpos) X.env)] := by rfl) :
    PI X (.Tuple es kk tpos) (.Call (.Name "enumerate" pp) [.Call (.Attribute e "items" apos) [] [] cpos] [] pos) (tI X.K rx c W (.tup ts) (.enumI p)) := PI.weak (pi_enumI hg hm he hbase hline hs) fun σ H R ⟨α, Z, F, k, X', rs, g, w, hX, cont⟩ => by
  have w : (match getP p α with
    | some (.ld tok kvs) => k (enumD 0 (itemsD kvs)) (fun β => getP p β = some (.ld tok kvs)) (fun β => β) α
    | _ => False) := w
  cases e : getP p α with
  | none => rw [e] at w; exact w.elim
  | some v =>
    rw [e] at w
    cases v with
    | ld a kvs =>
      obtain ⟨x, Fi, Fr, h1, ⟨ws, o, rfl, rfl, ha, r⟩, _, _⟩ := rs.lens e
      refine tPl_of h1.rd ⟨a, o, ws, rfl, ha, cont _ _ _ _ w H Z F _ .refl g rs fun H' Z' α' σ' F' s g' rs' hg => ⟨rs', ?_⟩⟩
      have naF : a ∉ F := fun h => by
        have := g.ow a h
        rw [ha] at this
        exact this
      obtain ⟨y, _, _, h2, ⟨ws', o', ey, _, ha', r'⟩, _⟩ := rs'.lens hg
      rw [s.fr a _ ha naF] at ha'
      cases ha'
      exact drw_enumI g'.zt (s.fr a _ ha naF) r'
    | _ => exact w.elim
end
end Am

set_option maxHeartbeats 4000000
namespace Am
open PySem PySem.Spec PyProof.Rows L2
variable [CN]
section
variable {K : PySem.W.Frag} {rx : RX} {c : Am.Ctx} {W : WX} {H H' H1 H2 : Hp} {Z Z' Z1 Z2 : ZP} {F F' F1 F2 Fx Fy Fr : List Addr} {α α1 α2 : Sl} {σ : L2.St} {P : VP} {X' : XP} {Q : VK}
/-- what stands at a place is written -/
theorem RS.writeP {p : Pl} {l : Addr} {o : HO} {v w : AV} (g : G3 H Z F) (e : getP p α = some v) (hp : PathTo σ H Z p (.ref l)) (pm : F.Perm ([l] ++ Fr)) (gone : RS K H Z (setP p α none) σ Fr) (ho : Own (some o)) (hw : RA K (upd H l o) Z w (.ref l) [l]) :
    ∃ F', Step H Z F (upd H l o) Z F' ∧ G3 (upd H l o) Z F' ∧ RS K (upd H l o) Z (setP p α (some w)) σ F' := by
  have g1 := g.perm pm
  have gl : G3 H Z [l] := g1.left
  have st : Step H Z [l] (upd H l o) Z [l] := .wr (by simp)
  have rs1 : RS K (upd H l o) Z (setP p α none) σ Fr := gone.frame gl st g1.dis
  obtain ⟨F3, rest, rs2, p2⟩ := rs1.refill e (hp.keep (st.keep gl)) hw
  have sb := st.beside g1
  have gb := G3.beside g1 st (G3.wr ho gl)
  have pp : ([l] ++ Fr).Perm (F3 ++ rest) := List.perm_append_comm.trans p2
  exact ⟨F3, ((sb.permL pm.symm).permR pp).lessR fun _ h => List.mem_append_left _ h, (gb.perm pp).left, rs2⟩
theorem In.lstP (I : In K rx W σ H Z F α P X' Q) {p : Pl} {ds : List D} (e : getP p α = some (.ol ds)) : ∃ l vs, PathTo σ H Z p (.ref l) ∧ H l = some (.lst vs) ∧ RDs K H Z ds vs ∧
    ∀ ds' vs', RDs K H Z ds' vs' → ∃ F', Step H Z F (upd H l (.lst vs')) Z F' ∧ In K rx W σ (upd H l (.lst vs')) Z F' (setP p α (some (.ol ds'))) P X' Q := by
  obtain ⟨x, Fi, Fr, h1, ⟨l, vs, rfl, rfl, hl, r⟩, q, _, gone⟩ := I.rs.lens e
  refine ⟨l, vs, h1, hl, r, fun ds' vs' r' => ?_⟩
  have gl : G3 H Z [l] := (I.g.perm q).left
  obtain ⟨F', s, g, rs⟩ := RS.writeP (w := .ol ds') I.g e h1 q gone (o := .lst vs') trivial ⟨l, vs', rfl, rfl, upd_same, r'.wr gl⟩
  exact ⟨F', s, I.next (Fx := []) (by rw [List.append_nil]; exact s) (g30 g) rs⟩
theorem In.dctP (I : In K rx W σ H Z F α P X' Q) {p : Pl} {ds : List (Am.Key × D)} (e : getP p α = some (.od ds)) : ∃ l vs, PathTo σ H Z p (.ref l) ∧ H l = some (.dK vs) ∧ RK K H Z ds vs ∧
    ∀ ds' vs', RK K H Z ds' vs' → ∃ F', Step H Z F (upd H l (.dK vs')) Z F' ∧ In K rx W σ (upd H l (.dK vs')) Z F' (setP p α (some (.od ds'))) P X' Q := by
  obtain ⟨x, Fi, Fr, h1, ⟨l, vs, rfl, rfl, hl, r⟩, q, _, gone⟩ := I.rs.lens e
  refine ⟨l, vs, h1, hl, r, fun ds' vs' r' => ?_⟩
  have gl : G3 H Z [l] := (I.g.perm q).left
  obtain ⟨F', s, g, rs⟩ := RS.writeP (w := .od ds') I.g e h1 q gone (o := .dK vs') trivial ⟨l, vs', rfl, rfl, upd_same, r'.wr gl⟩
  exact ⟨F', s, I.next (Fx := []) (by rw [List.append_nil]; exact s) (g30 g) rs⟩
end
section
variable {X : Cx} {rx : RX} {c : Am.Ctx} {W : WX} {a b d e o : Expr} {rest es : List Expr} {pos : Pos} {ma mb md : ME} {ms : MEs} {p : Pl}
theorem InS.writeLP {σ : L2.St} {H : Hp} {Z : ZP} {F : List Addr} {α : Sl} {sg : List Bool} {N : Am.Ends} {X' : XP} {DD : L2.Ends} (I : InS X.K rx W sg σ H Z F α N X' DD) {p : Pl} {ds : List D} (e : getP p α = some (.ol ds)) : ∃ l vs, PathTo σ H Z p (.ref l) ∧ H l = some (.lst vs) ∧ RDs X.K H Z ds vs ∧
    ∀ ds' vs', RDs X.K H Z ds' vs' → ∃ F', InS X.K rx W sg σ (upd H l (.lst vs')) Z F' (setP p α (some (.ol ds'))) N X' DD := by
  obtain ⟨x, Fi, Fr, h1, ⟨l, vs, rfl, rfl, hl, r⟩, q, _, gone⟩ := I.rs.lens e
  refine ⟨l, vs, h1, hl, r, fun ds' vs' r' => ?_⟩
  have gl : G3 H Z [l] := (I.g.perm q).left
  obtain ⟨F', s, g, rs⟩ := RS.writeP (w := .ol ds') I.g e h1 q gone (o := .lst vs') trivial ⟨l, vs', rfl, rfl, upd_same, r'.wr gl⟩
  exact ⟨F', I.next s g .refl rs⟩
theorem InS.writeDP {σ : L2.St} {H : Hp} {Z : ZP} {F : List Addr} {α : Sl} {sg : List Bool} {N : Am.Ends} {X' : XP} {DD : L2.Ends} (I : InS X.K rx W sg σ H Z F α N X' DD) {p : Pl} {ds : List (Am.Key × D)} (e : getP p α = some (.od ds)) : ∃ l vs, PathTo σ H Z p (.ref l) ∧ H l = some (.dK vs) ∧ RK X.K H Z ds vs ∧
    ∀ ds' vs', RK X.K H Z ds' vs' → ∃ F', InS X.K rx W sg σ (upd H l (.dK vs')) Z F' (setP p α (some (.od ds'))) N X' DD := by
  obtain ⟨x, Fi, Fr, h1, ⟨l, vs, rfl, rfl, hl, r⟩, q, _, gone⟩ := I.rs.lens e
  refine ⟨l, vs, h1, hl, r, fun ds' vs' r' => ?_⟩
  have gl : G3 H Z [l] := (I.g.perm q).left
  obtain ⟨F', s, g, rs⟩ := RS.writeP (w := .od ds') I.g e h1 q gone (o := .dK vs') trivial ⟨l, vs', rfl, rfl, upd_same, r'.wr gl⟩
  exact ⟨F', I.next s g .refl rs⟩
theorem mut_core {m : Mu} {p : Pl} {σ : L2.St} {H : Hp} {Z : ZP} {F : List Addr} {α : Sl} {P : VP} {X' : XP} {Q : VK} {x : V} (hne : m ≠ .extend) (I : In X.K rx W σ H Z F α P X' Q) (h1 : PathTo σ H Z p x)
    (w : onO (getP p α) fun o => onMu m (kindA o) (wpEs c ms α (fun vs α1 => onO (getP p α1) fun o1 => onSame (kindA o) (kindA o1) (mutQ m o1 vs fun v o' => P v (setP p α1 (some o')))) X')) :
    ∃ T id r, MtK X T m.nm id r ∧ tyA X.K T x H ∧ tEs X.K rx c W ms σ H fun xs H2 => r x xs H2 Q := by
  obtain ⟨o, eo, w⟩ := onO.el w
  obtain ⟨x', Fi, Fr, h1', r0, _⟩ := I.rs.lens eo
  obtain rfl := h1.fn h1'
  -- a list's method
  have lst : ∀ {id : String} {r : V → List V → Hp → VK → Prop}, kindA o = .l → MtK X "list" m.nm id r → (wpEs c ms α (fun vs α1 => onO (getP p α1) fun o1 => onSame (kindA o) (kindA o1) (mutQ m o1 vs fun v o' => P v (setP p α1 (some o')))) X') →
      (∀ ds vs l ws xs H1 (k : AV → AV → Prop) (Z1 : ZP) (Q' : VK), mutQ m (.ol ds) vs k → H1 l = some (.lst ws) → RDs X.K H1 Z1 ds ws → (∀ es, toDs vs = some es → RDs X.K H1 Z1 es xs) → xs.length = vs.length →
        (∀ d es x' ws', k (.p d) (.ol es) → RDs X.K H1 Z1 es ws' → RD X.K H1 Z1 d x' → Q' x' (upd H1 l (.lst ws'))) → r (.ref l) xs H1 Q') →
      ∃ T id r, MtK X T m.nm id r ∧ tyA X.K T x H ∧ tEs X.K rx c W ms σ H fun xs H2 => r x xs H2 Q := fun {id r} hk mk w hr => by
    have ty : ∃ ds, list? o = some ds := by
      cases o with
      | p d => cases d <;> first | exact ⟨_, rfl⟩ | cases hk
      | ol ds => exact ⟨_, rfl⟩
      | ll a ds => exact ⟨_, rfl⟩
      | od _ => cases hk
      | ld _ _ => cases hk
      | oi _ _ => cases hk
    obtain ⟨ds, el⟩ := ty
    obtain ⟨l0, vs0, rfl, q0, _⟩ := r0.list el
    refine ⟨"list", id, r, mk, .inl ⟨rfl, vs0, q0⟩, ?_⟩
    refine I.vals w fun vs α1 H1 Z1 F1 xs Fx w1 I1 s1 g1 rl => ?_
    obtain ⟨o1, eo1, w2⟩ := onO.el w1
    rw [hk] at w2
    have I2 := I.frz s1 g1 I1.rs
    -- only an own list is changed
    have ol : ∃ ds, o1 = .ol ds ∧ mutQ m (.ol ds) vs fun v o' => P v (setP p α1 (some o')) := by
      cases o1 with
      | ol ds => exact ⟨ds, rfl, w2⟩
      | od _ => exact w2.elim
      | ld _ _ => exact w2.elim
      | oi _ _ => exact w2.elim
      | ll a ds => cases m <;> exact w2.elim
      | p d => cases d <;> first | exact w2.elim | (cases m <;> exact w2.elim)
    obtain ⟨ds1, rfl, w3⟩ := ol
    obtain ⟨l, ws, hσ, hl, rr, wr⟩ := I2.lstP eo1
    cases hσ.fn ((h1.keep (s1.keep I.g)).keep (.z fun _ z => .inl z))
    refine hr ds1 vs l0 ws xs H1 _ _ Q w3 hl rr (fun es e => rl.tds e) rl.len.symm fun d es x' ws' hp r1 r2 => ?_
    obtain ⟨F', sw, I3⟩ := wr es ws' r1
    exact I3.now hp (RD.keep (sw.keep I2.g) d r2)
  cases ek : kindA o with
  | l =>
    cases m with
    | extend => exact (hne rfl).elim
    | dpop => rw [ek] at w; exact w.elim
    | append =>
      refine lst ek ⟨PySem.F.plainAttrs_list, PySem.F.slot_list_append, PySem.F.type_list_append, mt_append⟩ (by rw [ek] at w ⊢; exact w) fun ds vs l ws xs H1 k Z1 Q' wq hl rr ra ln q => ?_
      match vs, wq, ln with
      | [v], wq, ln =>
        obtain ⟨d, ed, hz, wq⟩ := onO.el wq
        obtain ⟨x', q2, e, rd, e2⟩ := ra [d] (by show (match toD v, toDs [] with | some d, some q => some (d :: q) | _, _ => none) = _; rw [ed])
        cases e2
        exact ⟨l, ws, x', rfl, e, hl, by rw [← rr.len]; exact hz, q .non (ds ++ [d]) .non (ws ++ [x']) wq (rr.app ⟨x', [], rfl, rd, rfl⟩) rfl⟩
    | pop =>
      refine lst ek ⟨PySem.F.plainAttrs_list, PySem.F.slot_list_pop, PySem.F.type_list_pop, mt_pop⟩ (by rw [ek] at w ⊢; exact w) fun ds vs l ws xs H1 k Z1 Q' wq hl rr ra ln q => ?_
      match vs, wq, ln with
      | [], wq, ln =>
        obtain ⟨d, ed, wq⟩ := onO.el wq
        rw [getL_eq] at ed
        obtain ⟨x', e1, rd⟩ := rr.at ed
        rw [rr.len] at e1
        exact ⟨l, ws, x', rfl, List.eq_nil_of_length_eq_zero ln, hl, e1, q d _ x' _ wq rr.dropLast rd⟩
    | popAt =>
      refine lst ek ⟨PySem.F.plainAttrs_list, PySem.F.slot_list_pop, PySem.F.type_list_pop, mt_popAt'⟩ (by rw [ek] at w ⊢; exact w) fun ds vs l ws xs H1 k Z1 Q' wq hl rr ra ln q => ?_
      match vs, wq, ln with
      | [v], wq, ln =>
        obtain ⟨j, rfl, wq⟩ := onI.el wq
        cases j with
        | negSucc n => exact wq.elim
        | ofNat n =>
        obtain ⟨d, ed, wq⟩ := onO.el wq
        rw [getL_eq] at ed
        obtain ⟨x', e1, rd⟩ := rr.at ed
        obtain ⟨y, q2, e, rd2, e2⟩ := ra [.int (Int.ofNat n)] rfl
        cases e2
        cases rd2
        exact ⟨l, ws, Int.ofNat n, x', rfl, e, hl, Int.natCast_nonneg n, e1, q d _ x' _ wq (rr.erase _) rd⟩
    | insert =>
      refine lst ek ⟨PySem.F.plainAttrs_list, PySem.F.slot_list_insert, PySem.F.type_list_insert, mt_insert'⟩ (by rw [ek] at w ⊢; exact w) fun ds vs l ws xs H1 k Z1 Q' wq hl rr ra ln q => ?_
      match vs, wq, ln with
      | [v, u], wq, ln =>
        obtain ⟨j, rfl, wq⟩ := onI.el wq
        obtain ⟨d, ed, h0, h1', hz, wq⟩ := onO.el wq
        obtain ⟨y, q2, e, rd2, z, q3, e2, rd3, e3⟩ := ra [.int j, d] (by show (match toD (.p (.int j)), (match toD u, toDs [] with | some d, some q => some (d :: q) | _, _ => none) with | some d, some q => some (d :: q) | _, _ => none) = _; rw [ed])
        cases e3
        subst e2
        cases rd2
        exact ⟨l, ws, j, z, rfl, e, hl, by rw [← rr.len]; exact hz, h0, by rw [← rr.len]; exact h1', q .non _ .non _ wq (RDs.ins _ rr rd3 (by omega)) rfl⟩
    | clear =>
      refine lst ek ⟨PySem.F.plainAttrs_list, PySem.F.slot_list_clear, PySem.F.type_list_clear, mt_clear⟩ (by rw [ek] at w ⊢; exact w) fun ds vs l ws xs H1 k Z1 Q' wq hl rr ra ln q => ?_
      match vs, wq, ln with
      | [], wq, ln => exact ⟨l, ws, rfl, List.eq_nil_of_length_eq_zero ln, hl, q .non [] .non [] wq rfl rfl⟩
  | d =>
    have dct : ∀ {id : String} {r : V → List V → Hp → VK → Prop}, MtK X "dict" m.nm id r →
      (∀ ds vs l ws xs H1 (k : AV → AV → Prop) (Z1 : ZP) (Q' : VK), mutQ m (.od ds) vs k → H1 l = some (.dK ws) → RK X.K H1 Z1 ds ws → (∀ es, toDs vs = some es → RDs X.K H1 Z1 es xs) → xs.length = vs.length →
        (∀ d es x' ws', k (.p d) (.od es) → RK X.K H1 Z1 es ws' → RD X.K H1 Z1 d x' → Q' x' (upd H1 l (.dK ws'))) → r (.ref l) xs H1 Q') →
      (wpEs c ms α (fun vs α1 => onO (getP p α1) fun o1 => onSame (kindA o) (kindA o1) (mutQ m o1 vs fun v o' => P v (setP p α1 (some o')))) X') →
      ∃ T id r, MtK X T m.nm id r ∧ tyA X.K T x H ∧ tEs X.K rx c W ms σ H fun xs H2 => r x xs H2 Q := fun {id r} mk hr w => by
      have ty : ∃ ds, dict? o = some ds := by
        cases o with
        | p d => cases d <;> first | exact ⟨_, rfl⟩ | cases ek
        | od ds => exact ⟨_, rfl⟩
        | ld a ds => exact ⟨_, rfl⟩
        | ol _ => cases ek
        | ll _ _ => cases ek
        | oi _ _ => cases ek
      obtain ⟨ds, el⟩ := ty
      obtain ⟨l0, vs0, rfl, q0, _⟩ := r0.dict el
      refine ⟨"dict", id, r, mk, .inr (.inr ⟨rfl, vs0, q0⟩), ?_⟩
      refine I.vals w fun vs α1 H1 Z1 F1 xs Fx w1 I1 s1 g1 rl => ?_
      obtain ⟨o1, eo1, w2⟩ := onO.el w1
      rw [ek] at w2
      have I2 := I.frz s1 g1 I1.rs
      have ol : ∃ ds, o1 = .od ds ∧ mutQ m (.od ds) vs fun v o' => P v (setP p α1 (some o')) := by
        cases o1 with
        | od ds => exact ⟨ds, rfl, w2⟩
        | ol _ => exact w2.elim
        | ll _ _ => exact w2.elim
        | oi _ _ => exact w2.elim
        | ld a ds => cases m <;> exact w2.elim
        | p d => cases d <;> first | exact w2.elim | (cases m <;> exact w2.elim)
      obtain ⟨ds1, rfl, w3⟩ := ol
      obtain ⟨l, ws, hσ, hl, rr, wr⟩ := I2.dctP eo1
      cases hσ.fn ((h1.keep (s1.keep I.g)).keep (.z fun _ z => .inl z))
      refine hr ds1 vs l0 ws xs H1 _ _ Q w3 hl rr (fun es e => rl.tds e) rl.len.symm fun d es x' ws' hp r1 r2 => ?_
      obtain ⟨F', sw, I3⟩ := wr es ws' r1
      exact I3.now hp (RD.keep (sw.keep I2.g) d r2)
    cases m with
    | clear =>
      refine dct ⟨PySem.F.plainAttrs_dict, PySem.F.slot_dict_clear, PySem.F.type_dict_clear, mtd_clear⟩ (fun ds vs l ws xs H1 k Z1 Q' wq hl rr ra ln q => ?_) (by rw [ek] at w ⊢; exact w)
      match vs, wq, ln with
      | [], wq, ln => exact ⟨l, ws, rfl, List.eq_nil_of_length_eq_zero ln, hl, q .non [] .non [] wq rfl rfl⟩
    | dpop =>
      refine dct ⟨PySem.F.plainAttrs_dict, PySem.F.slot_dict_pop, PySem.F.type_dict_pop, dp_ok⟩ (fun ds vs l ws xs H1 k Z1 Q' wq hl rr ra ln q => ?_) (by rw [ek] at w ⊢; exact w)
      match vs, wq, ln with
      | [v], wq, ln =>
        obtain ⟨d, ed, wq⟩ := onO.el wq
        obtain ⟨j, ej, wq⟩ := onO.el wq
        obtain ⟨u, eu, wq⟩ := onO.el wq
        obtain ⟨y, q2, e, rd2, e2⟩ := ra [d] (by show (match toD v, toDs [] with | some d, some q => some (d :: q) | _, _ => none) = _; rw [ed])
        cases e2
        obtain ⟨x', e3, rd⟩ : ∃ x, valV ws (kK j) = some x ∧ RD X.K H1 Z1 u x := by
          have := rr.val j
          rw [eu] at this
          exact this
        have ey : y = kV (kK j) := key_rd (v := .p d) (F := []) ⟨rd2, rfl⟩ rfl ej
        subst ey
        exact ⟨l, ws, kK j, x', rfl, e, hl, e3, q u _ x' _ wq (rr.del j) rd⟩
    | _ => rw [ek] at w; exact w.elim
  | t => rw [ek] at w; cases m <;> exact w.elim
  | s => rw [ek] at w; cases m <;> exact w.elim
  | o => rw [ek] at w; cases m <;> exact w.elim
theorem tPl.mono {p : Pl} {σ : L2.St} {H : Hp} {Q Q' : VK} (h : tPl p σ H Q) (w : ∀ x H, Q x H → Q' x H) : tPl p σ H Q' := by
  cases p with
  | v i => exact let ⟨x, a, b⟩ := h; ⟨x, a, w _ _ b⟩
  | f p c j => exact let ⟨x, a, b⟩ := h; ⟨x, a, w _ _ b⟩
theorem tO.monoA {p : Pl} {σ : L2.St} {H : Hp} {Q Q' : VK} (h : tO X.K rx c W (.at p ma) σ H Q) (w : ∀ x H, Q x H → Q' x H) : tO X.K rx c W (.at p ma) σ H Q' := tPl.mono h fun _ _ q => tE.mono q fun _ _ ⟨n, ad, vs, x, a, b, c, d, e⟩ => ⟨n, ad, vs, x, a, b, c, d, w _ _ e⟩
/-- the receiver x[e] -/
theorem In.atP {σ : L2.St} {H : Hp} {Z : ZP} {F : List Addr} {α : Sl} {P : VP} {X' : XP} {Q : VK} (I : In X.K rx W σ H Z F α P X' Q) {p : Pl} {e : ME} {k : Nat → AV → Sl → Prop} {R : VK} (w : onO (getP p α) fun _ => wpE c e α (fun v α1 => onNat v fun n => onO (getP (.f p 0 n) α1) fun o => k n o α1) X')
    (cont : ∀ (n : Nat) (o : AV) α1 H1 Z1 F1 x, k n o α1 → getP (.f p 0 n) α1 = some o → Step H Z F H1 Z1 F1 → In X.K rx W σ H1 Z1 F1 α1 P X' Q → PathTo σ H1 Z1 (.f p 0 n) x → R x H1) : tO X.K rx c W (.at p e) σ H R := by
  obtain ⟨u0, e0, w⟩ := onO.el w
  obtain ⟨x0, _, _, h0, _⟩ := I.rs.lens e0
  refine tPl_of h0.rd (I.val w fun v α1 H1 Z1 F1 x Fx hk I1 s1 g1 r1 => ?_)
  obtain ⟨n, rfl, hk⟩ := onNat.el hk
  obtain ⟨u, e1, hk⟩ := onO.el hk
  obtain ⟨rfl, rfl⟩ := r1
  have s2 : Step H Z F H1 Z1 F1 := by rw [List.append_nil] at s1; exact s1
  obtain ⟨y, _, _, ⟨ad, vs, hp, sh, ev⟩, _⟩ := I1.rs.lens e1
  exact ⟨n, ad, vs, y, rfl, PathTo.fn (h0.keep (s1.keep I.g)) hp, Keep.shell (.z fun _ _ => trivial) sh, ev, cont n u α1 H1 Z1 F1 y hk e1 s2 I1 ⟨ad, vs, hp, sh, ev⟩⟩
theorem InS.atP {σ : L2.St} {H : Hp} {Z : ZP} {F : List Addr} {α : Sl} {sg : List Bool} {N : Am.Ends} {X' : XP} {DD : L2.Ends} (I : InS X.K rx W sg σ H Z F α N X' DD) {p : Pl} {e : ME} {k : Nat → AV → Sl → Prop} {R : VK} (w : onO (getP p α) fun _ => wpE c e α (fun v α1 => onNat v fun n => onO (getP (.f p 0 n) α1) fun o => k n o α1) X')
    (cont : ∀ (n : Nat) (o : AV) α1 H1 Z1 F1 x, k n o α1 → getP (.f p 0 n) α1 = some o → Step H Z F H1 Z1 F1 → InS X.K rx W sg σ H1 Z1 F1 α1 N X' DD → PathTo σ H1 Z1 (.f p 0 n) x → R x H1) : tO X.K rx c W (.at p e) σ H R := by
  obtain ⟨u0, e0, w⟩ := onO.el w
  obtain ⟨x0, _, _, h0, _⟩ := I.rs.lens e0
  refine tPl_of h0.rd (I.val w fun v α1 H1 Z1 F1 x Fx hk I1 s1 g1 r1 => ?_)
  obtain ⟨n, rfl, hk⟩ := onNat.el hk
  obtain ⟨u, e1, hk⟩ := onO.el hk
  obtain ⟨rfl, rfl⟩ := r1
  have s2 : Step H Z F H1 Z1 F1 := by rw [List.append_nil] at s1; exact s1
  obtain ⟨y, _, _, ⟨ad, vs, hp, sh, ev⟩, _⟩ := I1.rs.lens e1
  exact ⟨n, ad, vs, y, rfl, PathTo.fn (h0.keep (s1.keep I.g)) hp, Keep.shell (.z fun _ _ => trivial) sh, ev, cont n u α1 H1 Z1 F1 y hk e1 s2 I1 ⟨ad, vs, hp, sh, ev⟩⟩
theorem mut_runP {m : Mu} {σ : L2.St} {H : Hp} {Q : VK} (hne : m ≠ .extend) (h : tE X.K rx c W (.mut m p ms) σ H Q) : tBX X m.nm (tO X.K rx c W (.pl p)) (tEs X.K rx c W ms) σ H Q := by
  obtain ⟨α, Z, F, P, X', I, w⟩ := tE.el h
  have w : onO (getP p α) fun o => onMu m (kindA o) (wpEs c ms α (fun vs α1 => onO (getP p α1) fun o1 => onSame (kindA o) (kindA o1) (mutQ m o1 vs fun v o' => P v (setP p α1 (some o')))) X') := w
  obtain ⟨v, e, _⟩ := onO.el w
  obtain ⟨x, _, _, h1, _⟩ := I.rs.lens e
  exact tPl_of h1.rd (mut_core hne I h1 w)
theorem mut_runA {m : Mu} {σ : L2.St} {H : Hp} {Q : VK} (hne : m ≠ .extend) (h : tE X.K rx c W (.mutA m p ma ms) σ H Q) : tBX X m.nm (tO X.K rx c W (.at p ma)) (tEs X.K rx c W ms) σ H Q := by
  obtain ⟨α, Z, F, P, X', I, w⟩ := tE.el h
  have w : onO (getP p α) fun _ => wpE c ma α (fun v α1 => onNat v fun n => onO (getP (.f p 0 n) α1) fun o => onMu m (kindA o) (wpEs c ms α1 (fun vs α2 => onO (getP (.f p 0 n) α2) fun o1 => onSame (kindA o) (kindA o1) (mutQ m o1 vs fun v o' => P v (setP (.f p 0 n) α2 (some o')))) X')) X' := w
  exact I.atP (k := fun n o α1 => onMu m (kindA o) (wpEs c ms α1 (fun vs α2 => onO (getP (.f p 0 n) α2) fun o1 => onSame (kindA o) (kindA o1) (mutQ m o1 vs fun v o' => P v (setP (.f p 0 n) α2 (some o')))) X')) w fun n o α1 H1 Z1 F1 x hk e1 _ I1 h1 => mut_core hne I1 h1 (by rw [e1]; exact hk)
theorem s_mutP {nm : Str} {p2 : Pos} (m : Mu) (ho : PE X o (tO X.K rx c W (.pl p))) (ha : PA X (e :: es) (tEs X.K rx c W ms)) (hnm : nm = m.nm := by rfl) (hne : m ≠ .extend := by (intro h; cases h)) (hbase : attributeBase o nm X.env (eval o X.env) = eval o X.env := by rfl)
    (hfew : ((backTo pos (starEach (e :: es) X.env)).all (fun x => !x.1) && (backToKw pos (keywordEach [] X.env)).all (fun x => x.1.isSome)
      && decide ((e :: es).length + ([] : List Keyword).length + (if ([] : List Keyword).isEmpty then 0 else 1) < 30)) = true := by rfl)
    (hline : (p2.endLine == pos.line) = true := by rfl) (hs : starEach (e :: es) X.env = (false, eval e X.env) :: starEach es X.env := by rfl) (hplain : (backTo pos (starEach es X.env)).any (·.1) = false := by rfl) :
    PE X (.Call (.Attribute o nm p2) (e :: es) [] pos) (tE X.K rx c W (.mut m p ms)) := by
  subst hnm
  exact PE.weak (pe_bx ho ha hbase hfew hline hs hplain) fun σ H Q h => mut_runP hne h
theorem s_mutP0 {nm : Str} {p2 : Pos} (m : Mu) (ho : PE X o (tO X.K rx c W (.pl p))) (hnm : nm = m.nm := by rfl) (hne : m ≠ .extend := by (intro h; cases h)) (hbase : attributeBase o nm X.env (eval o X.env) = eval o X.env := by rfl)
    (hline : (p2.endLine == pos.line) = true := by rfl) : PE X (.Call (.Attribute o nm p2) [] [] pos) (tE X.K rx c W (.mut m p .nil)) := by
  subst hnm
  exact PE.weak (pe_bx0 ho hbase hline) fun σ H Q h => tPl.mono (mut_runP hne h) fun v H ⟨T, id, r, mk, ty, q⟩ => ⟨T, id, r, mk, ty, tEs_nil q⟩
theorem s_mutA {nm : Str} {p2 : Pos} (m : Mu) (ho : PE X o (tO X.K rx c W (.at p ma))) (ha : PA X (e :: es) (tEs X.K rx c W ms)) (hnm : nm = m.nm := by rfl) (hne : m ≠ .extend := by (intro h; cases h)) (hbase : attributeBase o nm X.env (eval o X.env) = eval o X.env := by rfl)
    (hfew : ((backTo pos (starEach (e :: es) X.env)).all (fun x => !x.1) && (backToKw pos (keywordEach [] X.env)).all (fun x => x.1.isSome)
      && decide ((e :: es).length + ([] : List Keyword).length + (if ([] : List Keyword).isEmpty then 0 else 1) < 30)) = true := by rfl)
    (hline : (p2.endLine == pos.line) = true := by rfl) (hs : starEach (e :: es) X.env = (false, eval e X.env) :: starEach es X.env := by rfl) (hplain : (backTo pos (starEach es X.env)).any (·.1) = false := by rfl) :
    PE X (.Call (.Attribute o nm p2) (e :: es) [] pos) (tE X.K rx c W (.mutA m p ma ms)) := by
  subst hnm
  exact PE.weak (pe_bx ho ha hbase hfew hline hs hplain) fun σ H Q h => mut_runA hne h
theorem s_mutA0 {nm : Str} {p2 : Pos} (m : Mu) (ho : PE X o (tO X.K rx c W (.at p ma))) (hnm : nm = m.nm := by rfl) (hne : m ≠ .extend := by (intro h; cases h)) (hbase : attributeBase o nm X.env (eval o X.env) = eval o X.env := by rfl)
    (hline : (p2.endLine == pos.line) = true := by rfl) : PE X (.Call (.Attribute o nm p2) [] [] pos) (tE X.K rx c W (.mutA m p ma .nil)) := by
  subst hnm
  exact PE.weak (pe_bx0 ho hbase hline) fun σ H Q h => tO.monoA (mut_runA hne h) fun v H ⟨T, id, r, mk, ty, q⟩ => ⟨T, id, r, mk, ty, tEs_nil q⟩
def PutR (Q : Hp → Prop) (ov iv v : V) (H : Hp) : Prop := ∃ a, ov = .ref a ∧ ((∃ xs j m, H a = some (.lst xs) ∧ iv = .int j ∧ ixN xs.length j = some m ∧ Q (upd H a (.lst (xs.set m v)))) ∨
    (∃ kvs k, H a = some (.dK kvs) ∧ iv = kV k ∧ kvs.length < sizeLine ∧ Q (upd H a (.dK (L2.putK kvs k v)))))
theorem put_core {σ : L2.St} {H H1 H2 : Hp} {Z Z1 Z2 : ZP} {F F1 F2 Fx Fy : List Addr} {α α2 : Sl} {sg : List Bool} {N : Am.Ends} {X' : XP} {DD : L2.Ends} {v u : AV} {y z xo : V} (I : InS X.K rx W sg σ H Z F α N X' DD)
    (s1 : Step H Z F H1 Z1 (F1 ++ Fx)) (g1 : G3 H1 Z1 (F1 ++ Fx)) (r1 : RA X.K H1 Z1 v y Fx) (I2 : RS X.K H2 Z2 α2 σ F2) (s2 : Step H1 Z1 F1 H2 Z2 (F2 ++ Fy)) (g2 : G3 H2 Z2 (F2 ++ Fy)) (r2 : RA X.K H2 Z2 u z Fy) (hx : PathTo σ H2 (fun a => Z2 a ∨ a ∈ Fy ++ Fx) p xo)
    (w2 : onO (getP p α2) fun o => putQ o u v fun o' => N.nx (setP p α2 (some o'))) : PutR (DD.nx σ) xo z y H2 := by
  obtain ⟨o, eo, w3⟩ := onO.el w2
  -- what was held becomes data
  have gg := G3.beside g1 s2 g2
  have ss := s2.beside g1
  have pp : ((F2 ++ Fy) ++ Fx).Perm (F2 ++ (Fy ++ Fx)) := by rw [List.append_assoc]
  have I3 := I.frz ((s1.trans ss).permR pp) (gg.perm pp) I2
  have r1' := (r1.frame g1.left s2 g1.dis)
  have kz : ∀ {d : D}, toD v = some d → RD X.K H2 (fun a => Z2 a ∨ a ∈ Fy ++ Fx) d y := fun {d} e => RD.keep (.z fun a z => z.imp id fun z => List.mem_append_right _ z) d (r1'.toD e)
  cases o with
  | ol xs =>
    obtain ⟨j, rfl, w4⟩ := onI.el w3
    obtain ⟨d, ed, w5⟩ := onO.el w4
    obtain ⟨l, ws, hσ2, hl, rr, wr⟩ := I3.writeLP eo
    cases hσ2.fn hx
    cases r2.1
    cases j with
    | negSucc n =>
      obtain ⟨ln, w5⟩ : n < xs.length ∧ N.nx (setP p α2 (some (.ol (setL xs (xs.length - 1 - n) d)))) := w5
      obtain ⟨F', I4⟩ := wr _ _ (rr.setN (xs.length - 1 - n) (kz ed))
      refine ⟨l, rfl, .inl ⟨ws, Int.negSucc n, _, hl, rfl, ?_, I4.nxt w5⟩⟩
      rw [← rr.len]
      unfold ixN
      rw [if_neg (by omega), if_pos (by omega)]
      congr 1
      omega
    | ofNat n =>
      obtain ⟨_, eg, w5⟩ := onO.el w5
      have lt := getL_lt eg
      obtain ⟨F', I4⟩ := wr _ _ (rr.setN n (kz ed))
      refine ⟨l, rfl, .inl ⟨ws, Int.ofNat n, _, hl, rfl, ?_, I4.nxt w5⟩⟩
      rw [← rr.len]
      unfold ixN
      rw [if_pos (show (0 : Int) ≤ Int.ofNat n from Int.natCast_nonneg n), if_pos (show Int.ofNat n < (xs.length : Int) from Int.ofNat_lt.mpr lt)]
      rfl
  | od kvs =>
    obtain ⟨de, ede, w4⟩ := onO.el w3
    obtain ⟨k, ek, w5⟩ := onO.el w4
    obtain ⟨d, ed, hz, w6⟩ := onO.el w5
    obtain ⟨l, ws, hσ2, hl, rr, wr⟩ := I3.writeDP eo
    cases hσ2.fn hx
    obtain ⟨F', I4⟩ := wr _ _ (rr.put k (kz ed))
    exact ⟨l, rfl, .inr ⟨ws, kK k, hl, key_rd r2 ede ek, by rw [← rr.len]; exact hz, I4.nxt w6⟩⟩
  | _ => exact w3.elim
theorem s_putP {p2 : Pos} {sg : List Bool} (hu : X.A.units + 190 < cLine) (he : PE X e (tE X.K rx c W md)) (ho : PE X o (tO X.K rx c W (.pl p))) (hi : PE X b (tE X.K rx c W mb))
    (ha : ∀ v, assign (.Subscript o b p2) X.env v = (do
      let ov ← holding [v] (eval o X.env)
      let iv ← holding [v, ov] (eval b X.env)
      standAt p2
      holding [v, ov, iv] (setItem ov iv v)
      release [v, ov, iv] []) := by intro _; rfl)
    (hs : swapsWithSole [.Subscript o b p2] e pos.line X.env = pure false := by rfl) (hw : swappedStores [.Subscript o b p2] e X.env = pure none := by rfl)
    (h1 : (assignEach [.Subscript o b p2] X.env).map (·.2) = [assign (.Subscript o b p2) X.env] := by rfl) :
    PS X (.Assign [.Subscript o b p2] e pos) (tS X.K rx c W sg (.asg (.idx (.pl p) mb) md)) := PS.weak (ps_asg he (pg_sub ho hi (set_any (by omega)) ha) hs hw h1) fun DD σ H ⟨α, Z, F, N, X', I, w⟩ => by
  have w : wpE c md α (fun v α1 => onO (getP p α1) fun _ => wpE c mb α1 (fun y α2 => onO (getP p α2) fun o => putQ o y v fun o' => N.nx (setP p α2 (some o'))) X') X' := w
  refine I.val w fun v α1 H1 Z1 F1 y Fx w1 I1 s1 g1 r1 => ?_
  obtain ⟨o0, eo0, w1⟩ := onO.el w1
  obtain ⟨xo, _, _, h0, _⟩ := I1.rs.lens eo0
  refine tPl_of h0.rd (I1.val w1 fun u α2 H2 Z2 F2 z Fy w2 I2 s2 g2 r2 => ?_)
  exact put_core I s1 g1 r1 I2.rs s2 g2 r2 ((h0.keep (s2.keep I1.g)).keep (.z fun _ z => .inl z)) w2
theorem s_putA {p2 : Pos} {sg : List Bool} (hu : X.A.units + 190 < cLine) (he : PE X e (tE X.K rx c W md)) (ho : PE X o (tO X.K rx c W (.at p ma))) (hi : PE X b (tE X.K rx c W mb))
    (ha : ∀ v, assign (.Subscript o b p2) X.env v = (do
      let ov ← holding [v] (eval o X.env)
      let iv ← holding [v, ov] (eval b X.env)
      standAt p2
      holding [v, ov, iv] (setItem ov iv v)
      release [v, ov, iv] []) := by intro _; rfl)
    (hs : swapsWithSole [.Subscript o b p2] e pos.line X.env = pure false := by rfl) (hw : swappedStores [.Subscript o b p2] e X.env = pure none := by rfl)
    (h1 : (assignEach [.Subscript o b p2] X.env).map (·.2) = [assign (.Subscript o b p2) X.env] := by rfl) :
    PS X (.Assign [.Subscript o b p2] e pos) (tS X.K rx c W sg (.asg (.idx (.at p ma) mb) md)) := PS.weak (ps_asg he (pg_sub ho hi (set_any (by omega)) ha) hs hw h1) fun DD σ H ⟨α, Z, F, N, X', I, w⟩ => by
  have w : wpE c md α (fun v α1 => onO (getP p α1) fun _ => wpE c ma α1 (fun x α2 => onNat x fun n => onO (getP (.f p 0 n) α2) fun _ => wpE c mb α2 (fun y α3 => onO (getP (.f p 0 n) α3) fun o => putQ o y v fun o' => N.nx (setP (.f p 0 n) α3 (some o'))) X') X') X' := w
  refine I.val w fun v α1 H1 Z1 F1 y Fx w1 I1 s1 g1 r1 => ?_
  refine I1.atP (k := fun n _ α2 => wpE c mb α2 (fun y α3 => onO (getP (.f p 0 n) α3) fun o => putQ o y v fun o' => N.nx (setP (.f p 0 n) α3 (some o'))) X') w1 fun n o α2 H2 Z2 F2 xo w2 _ s2 I2 h0 => ?_
  refine I2.val w2 fun u α3 H3 Z3 F3 z Fy w3 I3 s3 g3 r3 => ?_
  exact put_core I s1 g1 r1 I3.rs (s2.trans s3) g3 r3 ((h0.keep (s3.keep I2.g)).keep (.z fun _ z => .inl z)) w3
end
end Am

set_option maxHeartbeats 4000000
namespace Am
open PySem PySem.Spec PyProof.Rows L2
variable [CN]
/-- something that is made anew -/
def tN (K : PySem.W.Frag) (v : AV) : TE := fun _ H Q => ∃ Z kk, Zt H Z ∧ kk v ∧ ResP K H Z kk Q
theorem n_dct {X : Cx} {pos : Pos} : PE X (.Dict [] [] pos) (tN X.K (.od [])) := PE.weak pe_dnewK fun σ H Q ⟨Z, kk, zt, hk, r⟩ p hp => r.dct zt hk (show RK X.K H Z [] [] from rfl) hp
/-- what __init__ does: the one field is set -/
def spN (K : PySem.W.Frag) (k : Nat) (f : Str) (v : AV) : Sp := fun vs H Q _ => ∃ a dx Z kk, vs = [.ref a] ∧ H a = some (.ins (CN.cad k) dx []) ∧ Zt H Z ∧ kk v ∧ ResP K H Z kk (fun y H1 => Q .non (upd H1 a (.ins (CN.cad k) dx [(f, y)])))
section
variable {P : Program} {w : World} {K : PySem.W.Frag} {mg : Str → Option Value} {base : Heap}
theorem ninit_ok {qual : Str} {st : Stmt} {fi : Addr} {fd : FuncData} {k L : Nat} {f : Str} {v : AV} (F : Fun K "__init__" qual st fi fd) (S : FnScope [("self" : Str)] [("self" : Str)] (defScope st)) (C : ClsK K k f)
    (hbody : ∀ (cdv : Value) (A : Around) (outer : List Env) (s : Shared) (H : Hp) (E : XK), Room L (A.deeper (envOfC qual (defScope st) s.heap.objs.size fi cdv)) →
      PSs (cxOf (L2.CX P w) P w K mg base [("self" : Str)] qual (defScope st) fi cdv A outer s H E) (defBody st) (sFld K (tVar 0) (tN K v) f)) :
    FnOk P w K mg base (L2.CX P w) (L + 1) fi fd [("self" : Str)] (spN K k f v) := by
  refine F.okX S (fun vs H Q E h => ?_) (fun cdv A outer s H vs Q E hr h => ⟨_, hbody cdv A outer s H E hr, ?_⟩)
  · obtain ⟨a, _, _, _, rfl, _⟩ := h
    rfl
  · obtain ⟨a, dx, Z, kk, rfl, ha, zt, hk, res⟩ := h
    refine ⟨Z, kk, zt, hk, fun v' hv H' Z' y Fr n r => ?_⟩
    have ha' : H' a = some (.ins (CN.cad k) dx []) := (n.step zt).fr a _ ha (by simp)
    exact ⟨.ref a, rfl, a, _, dx, [], rfl, ha', C.c, C.no, (by show 0 < 1000; decide), res v' hv H' Z' y Fr n r⟩
/-- class k can be made -/
structure NI (P : Program) (w : World) (K : PySem.W.Frag) (mg : Str → Option Value) (base : Heap) (L k : Nat) (x f : Str) (v : AV) : Prop where
  ex : ∃ fi fd, FnOk P w K mg base (L2.CX P w) L fi fd [("self" : Str)] (spN K k f v) ∧ L2.Mk K (CN.cad k) fi ∧ Binds K fd [("self" : Str)] []
  C : ClsK K k f
  hm : mg x = some (.ref (CN.cad k))
end
/-- the new object, filled -/
theorem new_core {K : PySem.W.Frag} {H : Hp} {Z : ZP} {x dx : Addr} {k : Nat} {f : Str} {v : AV} {kk : AV → Prop} {Q : VK} (C : ClsK K k f) (zt : Zt H Z) (hx : H x = none) (hdx : H dx = none) (hne : dx ≠ x) (hk : kk (.oi (k + 2) [some v])) (res : ResP K H Z kk Q) :
    ResP K (upd (upd H dx (.own x)) x (.ins (CN.cad k) dx [])) Z (fun u => u = v) (fun y H1 => Q (.ref x) (upd H1 x (.ins (CN.cad k) dx [(f, y)]))) := by
  intro u hu H' Z' y Fr n r
  subst hu
  have ext : ∀ a o, H a = some o → (upd (upd H dx (.own x)) x (.ins (CN.cad k) dx [])) a = some o := fun a o ha => by
    rw [upd_ne (fun q => by rw [q, hx] at ha; cases ha), upd_ne (fun q => by rw [q, hdx] at ha; cases ha)]; exact ha
  have tkx : (upd (upd H dx (.own x)) x (.ins (CN.cad k) dx [])) x = some (.ins (CN.cad k) dx []) := upd_same
  have n1 : New H Z (upd (upd H dx (.own x)) x (.ins (CN.cad k) dx [])) Z [x] := New.more ext (fun _ z => z) (fun _ z => .inl z) (fun a z => by
    obtain ⟨o, ho⟩ : ∃ o, H a = some o := by
      cases e : H a with
      | none => exact absurd e (zt a z)
      | some o => exact ⟨o, rfl⟩
    rw [ext a o ho]; simp) (by simp) (fun a h => by rw [List.mem_singleton.mp h]; exact hx) (fun a h => by rw [List.mem_singleton.mp h, tkx]; exact trivial) (fun a h z => by
    rw [List.mem_singleton.mp h] at z
    exact zt x z hx)
  have s1 := n1.step zt
  have g1 : G3 (upd (upd H dx (.own x)) x (.ins (CN.cad k) dx [])) Z [x] := (n1 [] (g0 zt)).2
  have g2 : G3 H' Z' ([x] ++ Fr) := (n [x] g1).2
  have nz : ¬ Z' x := g2.nz x (by simp)
  have st : Step H' Z' [x] (upd H' x (.ins (CN.cad k) dx [(f, y)])) Z' [x] := .wr (by simp)
  have kp : Keep H' Z' (upd H' x (.ins (CN.cad k) dx [(f, y)])) Z' := st.keep g2.left
  have r3 : RA K (upd H' x (.ins (CN.cad k) dx [(f, y)])) Z' u y Fr := r.frame g2.left st fun a h q => g2.dis a h q
  have kz : Keep (upd H' x (.ins (CN.cad k) dx [(f, y)])) Z' (upd H' x (.ins (CN.cad k) dx [(f, y)])) (fun a => Z' a ∨ a ∈ [x]) := .z fun _ z => .inl z
  refine res _ hk _ (fun a => Z' a ∨ a ∈ [x]) (.ref x) Fr (fun F g => ?_) ⟨x, [y], rfl, ⟨.inr (by simp), by rw [C.fl]; rfl, dx, by rw [C.fl, upd_same]; rfl⟩, y, [], Fr, [], rfl, by simp, ?_, ⟨rfl, rfl⟩⟩
  · obtain ⟨a1, a2⟩ := n1 F g
    obtain ⟨b1, b2⟩ := n _ a2
    have c1 : Step H' Z' ((F ++ [x]) ++ Fr) (upd H' x (.ins (CN.cad k) dx [(f, y)])) Z' ((F ++ [x]) ++ Fr) := .wr (by simp)
    have c2 : G3 (upd H' x (.ins (CN.cad k) dx [(f, y)])) Z' ((F ++ [x]) ++ Fr) := G3.wr trivial b2
    have pp : ((F ++ [x]) ++ Fr).Perm ([x] ++ (F ++ Fr)) := by
      rw [← List.append_assoc]
      exact List.Perm.append_right Fr List.perm_append_comm
    exact ⟨((a1.trans b1).trans c1).trans (.frzP pp), c2.frzP pp⟩
  · exact r3.frame (G3.wr (p := x) (o := .ins (CN.cad k) dx [(f, y)]) trivial g2.left) (.frzP (F1 := []) (by simp)) fun a h q => g2.dis a h q
theorem NI.new {X : Cx} {L k : Nat} {x f : Str} {v : AV} (h : NI X.prog X.w X.K X.mg X.base L k x f v) (hr : Room (L + 1) X.A) (hx : Passes (L2.CX X.prog X.w) X (fun _ _ _ => False)) : NewO X k x [some v] := fun {p pos} hg hd => by
  obtain ⟨fi, fd, F, M, hb⟩ := h.ex
  refine PE.weak (pe_make0 M F hr hg h.hm hb .nil hx hd) fun σ H Q ⟨Z, kk, zt, hk, res⟩ => fun x dx h1 h2 h3 => ?_
  refine ⟨x, dx, Z, fun u => u = v, rfl, upd_same, fun a z => ?_, rfl, ?_⟩
  · by_cases q : a = x
    · rw [q, upd_same]; simp
    · rw [upd_ne q]
      by_cases q2 : a = dx
      · rw [q2, upd_same]; simp
      · rw [upd_ne q2]; exact zt a z
  · exact fun u hu H' Z' y Fr n r => ⟨rfl, new_core h.C zt h1 h2 h3 hk res u hu H' Z' y Fr n r⟩
theorem NewO.n {X : Cx} {k : Nat} {x : Str} {fs : Sl} (N : NewO X k x fs) {p pos : Pos} (hg : Gl X x := by rfl) (hd : (x == ("__debug__" : Str)) = false := by decide) : PE X (.Call (.Name x p) [] [] pos) (tN X.K (.oi (k + 2) fs)) := N hg hd
/-- a method of class k, as it stands in the text -/
structure FM (K : PySem.W.Frag) (k : Nat) (m qual : Str) (st : Stmt) (ps : List Str) (f : Addr) (fd : FuncData) : Prop where
  F : Fun K m qual st f fd
  hm : Meth K (CN.cad k) m f
  hb : Binds K fd ps []
theorem FM.d {P : Program} {w : World} {K : PySem.W.Frag} {mg : Str → Option Value} {base : Heap} {rx : RX} {m qual : Str} {st : Stmt} {ps : List Str} {f : Addr} {fd : FuncData} {k L : Nat} {call : List AV → FP → FX → Prop} (h : FM K k m qual st ps f fd)
    (o : FnOk P w K mg base (L2.CX P w) L f fd ps (spA K rx call)) : DefM P w K mg base rx L call k m := ⟨f, fd, ps, o, h.hm, h.hb⟩
/-- what a class must have, looked at -/
def clB (K : PySem.W.Frag) (C : Addr) (f : Str) : Bool :=
  PySem.W.plainGet K C Str.empty && (PySem.W.hasDictIn K C && (PySem.W.plainOver K C && (decide (PySem.W.findIn K (.ref C) "__setattr__" = some (some (.builtin "object.__setattr__"))) && decide (PySem.W.findIn K (.ref C) f = some none))))
theorem clB_ok {K : PySem.W.Frag} {k : Nat} {f : Str} (h : clB K (CN.cad k) f = true) (hf : CN.cfl k = [f]) : ClsK K k f := by
  obtain ⟨a, h⟩ := Bool.and_eq_true_iff.mp h
  obtain ⟨b, h⟩ := Bool.and_eq_true_iff.mp h
  obtain ⟨c, h⟩ := Bool.and_eq_true_iff.mp h
  obtain ⟨d, e⟩ := Bool.and_eq_true_iff.mp h
  have e := of_decide_eq_true e
  exact ⟨⟨a, b, c, of_decide_eq_true d⟩, hf, e⟩
theorem rxC_u {K : PySem.W.Frag} : RxU (rxC K) := fun e ds cls d H Z a od ws ha ⟨h1, h2, ys, x, r⟩ => ⟨h1, h2, ys, (Lk.free ha).xf x, RDs.lk (Lk.free ha) ds r⟩
theorem rx0_u : RxU (fun _ _ _ _ _ _ => False) := fun _ _ _ _ _ _ _ _ _ _ h => h
/-- .. where a dict is held -/
theorem Bd.wk {X : Cx} {k : Nat} {W W' : WX} (b : Bd X k W) (tk : Takes X W') : Bd X k W' := ⟨b.hr, tk, b.po, b.nd, b.hc⟩
end Am

set_option maxHeartbeats 4000000
namespace Am
open PySem PySem.Spec PyProof.Rows L2
variable [CN]
theorem perm_rd {K : PySem.W.Frag} {H : Hp} {Z : ZP} {ds : List D} {xs : List V} (r : RDs K H Z ds xs) : ∀ {pm : List Nat} {bs : List AV}, permA pm ds = some bs → (∃ es : List D, bs = es.map .p ∧ RDs K H Z es (permX pm .non xs)) ∧ ∀ j ∈ pm, j < xs.length
  | [], _, h => by cases h; exact ⟨⟨[], rfl, rfl⟩, fun j h => by cases h⟩
  | j :: pm, bs, h => by
    have h : (match getL ds j, permA pm ds with | some d, some q => some (AV.p d :: q) | _, _ => none) = some bs := h
    cases e1 : getL ds j with
    | none => rw [e1] at h; cases h
    | some d =>
      cases e2 : permA pm ds with
      | none => rw [e1, e2] at h; cases h
      | some q =>
        rw [e1, e2] at h
        cases h
        obtain ⟨⟨es, rfl, re⟩, b⟩ := perm_rd r e2
        rw [getL_eq] at e1
        obtain ⟨x, ex, rx⟩ := r.at e1
        have lx := (List.getElem?_eq_some_iff.mp ex).1
        refine ⟨⟨d :: es, rfl, x, permX pm .non xs, ?_, rx, re⟩, fun i hi => ?_⟩
        · show (xs.getD j .non) :: permX pm .non xs = _
          rw [List.getD_eq_getElem?_getD, ex]
          rfl
        · rcases List.mem_cons.mp hi with e | hi
          · rw [e]; exact lx
          · exact b i hi
/-- a method of class k, called by the names of its arguments -/
structure KMeth (P : Program) (w : World) (K : PySem.W.Frag) (mg : Str → Option Value) (base : Heap) (rx : RX) (L : Nat) (call : List AV → FP → FX → Prop) (k : Nat) (m : Str) (ks : List Str) (pm : List Nat) : Prop where
  ex : ∃ f fd ps, FnOk P w K mg base (L2.CX P w) L f fd ps (spA K rx call) ∧ Meth K (CN.cad k) m f ∧ ∀ (s : Shared) (v : Value) (ws : List Value), ks.length ≤ ws.length → BindsTo s fd ⟨[v], ks.zip ws⟩ (ps.zip (v :: permX pm .none ws))
theorem FM.kd {P : Program} {w : World} {K : PySem.W.Frag} {mg : Str → Option Value} {base : Heap} {rx : RX} {m qual : Str} {st : Stmt} {ps : List Str} {f : Addr} {fd : FuncData} {k L : Nat} {call : List AV → FP → FX → Prop} (h : FM K k m qual st ps f fd)
    (o : FnOk P w K mg base (L2.CX P w) L f fd ps (spA K rx call)) (ks : List Str) (pm : List Nat)
    (b : ∀ (kV doc pm' : Value) (an : Option Addr) (cdv ct v : Value) (ws : List Value), ks.length ≤ ws.length → bindArgs (PySem.W.fnOf m qual (defArgs st) (defBody st) (defScope st) .none kV doc pm' an cdv ct) ⟨[v], ks.zip ws⟩ = pure (ps.zip (v :: permX pm .none ws))) :
    KMeth P w K mg base rx L call k m ks pm := by
  obtain ⟨oc, od, kV, doc, pm', an, cdv, ct, osl, rfl, lk, hcd⟩ := h.F.ex
  exact ⟨f, _, ps, o, h.hm, fun s v ws hl => .of_eq (b kV doc pm' an cdv ct v ws hl)⟩
section
variable {X : Cx} {rx : RX} {c : Am.Ctx} {W : WX} {o : Expr} {kws : List Keyword} {pos : Pos} {ma : ME} {ms : MEs}
theorem mkcall_run {f k : Nat} {fn m : Str} {pm : List Nat} {σ : L2.St} {H : Hp} {Q : VK} (C : ClsK X.K k fn) (hm : (m == fn) = false) (h : tE X.K rx c W (.mkcall f k pm ma ms) σ H Q) :
    tO X.K rx c W ma σ H fun x H1 => ∃ a dx fs, x = .ref a ∧ H1 a = some (.ins (CN.cad k) dx fs) ∧ fs.lookup m = none ∧ tEs X.K rx c W ms σ H1 fun xs H2 => spA X.K rx (c.call f) (.ref a :: permX pm .non xs) H2 Q (WE W σ) ∧ ∀ j ∈ pm, j < xs.length := by
  obtain ⟨α, Z, F, P, X', I, w⟩ := tE.el h
  refine I.opd rfl w fun v α1 H1 Z1 F1 x Fx w1 I1 s1 g1 o1 => ?_
  obtain ⟨v1, Fv, r1, w2⟩ := o1.fetch I1.rs w1
  obtain ⟨⟨fs, rfl⟩, w3⟩ := onOi.el w2
  obtain ⟨a, us, rfl, sh, _⟩ := r1
  obtain ⟨y, dx, rfl, ha⟩ := sh.one C
  refine ⟨a, dx, _, rfl, ha, look_ne hm, ?_⟩
  refine I1.vals w3 fun vs α2 H2 Z2 F2 xs Fr w4 I2 s2 g2 r2 => ?_
  obtain ⟨ds, ed, w5⟩ := onO.el w4
  obtain ⟨bs, eb, w6⟩ := onO.el w5
  obtain ⟨rd, ef⟩ := r2.dats ed
  subst ef
  obtain ⟨hb, hj⟩ := perm_rd rd eb
  have gg := G3.beside g1 s2 g2
  rw [List.append_nil] at gg s2 g2
  have st : Step H Z F H2 Z2 (F2 ++ Fx) := s1.trans (s2.beside g1)
  have o2 : Opd X.K H2 Z2 σ ma (.ref a) v Fx := o1.frame g1 s2
  exact ⟨call_core (bs := bs) (ys := permX pm .non xs) I st gg I2.rs (ms := .cons ma .nil) (vs := [v]) (xs := [.ref a]) ⟨.ref a, [], Fx, [], rfl, by simp, o2, rfl, rfl⟩ hb w6, hj⟩
/-- o.m(k = v, ..) -/
theorem s_mkcall {f k L : Nat} {fn m : Str} {ks : List Str} {pm : List Nat} {apos : Pos} (C : ClsK X.K k fn) (D : KMeth X.prog X.w X.K X.mg X.base rx L (c.call f) k m ks pm) (hr : Room L X.A) (tk : Takes X W) (ho : PE X o (tO X.K rx c W ma)) (hkw : PK X kws (tEs X.K rx c W ms)) (hpm : ∀ n, (∀ j ∈ pm, j < n) → ks.length ≤ n) {pl : Sem Bool} (hm : (m == fn) = false := by decide)
    (hall : (backToKw pos (keywordEach kws X.env)).all (·.1.isSome) = true := by rfl) (hks : (backToKw pos (keywordEach kws X.env)).filterMap (·.1) = ks := by rfl)
    (hpl : ((backTo pos (starEach [] X.env)).any (·.1) || (backToKw pos (keywordEach kws X.env)).any (·.1.isNone)) = false := by rfl)
    (ht : eval (.Call (.Attribute o m apos) [] kws pos) X.env = (do
      let ov ← eval o X.env
      standAt apos.atName
      let (f, first) ← holding [ov] (getMethod ov m pl)
      callWith pos f first (backTo pos (starEach [] X.env)) (backToKw pos (keywordEach kws X.env))) := by rfl) :
    PE X (.Call (.Attribute o m apos) [] kws pos) (tE X.K rx c W (.mkcall f k pm ma ms)) := by
  obtain ⟨fa, fd, ps, F, hme, hb⟩ := D.ex
  refine PE.weak (t := fun σ H Q => tO X.K rx c W ma σ H fun x H1 => ∃ a dx fs, x = .ref a ∧ H1 a = some (.ins (CN.cad k) dx fs) ∧ fs.lookup m = none ∧ tEs X.K rx c W ms σ H1 fun xs H2 => spA X.K rx (c.call f) (.ref a :: permX pm .non xs) H2 Q (WE W σ) ∧ ∀ j ∈ pm, j < xs.length) ⟨fun pins s σ H Q I h => ?_⟩ fun σ H Q h => mkcall_run C hm h
  refine PySem.W.methodCall_KW (pl := pl) (thn (ho.run pins s σ H _ I h) fun u s1 ⟨x, H1, I1, rx', a, dx, fs, ex, ea, l, q⟩ => ?_) ht
  subst ex
  obtain rfl : u = Value.ref a := rx'
  refine getmeth_ok I1 ea C.c hme l ?_
  refine PySem.W.callWith_KW0 (first := [.ref a]) (h₀ := X.base) I.ok.mod.kin hme.kp hall (thn (hkw.run pos pins s1 σ H1 _ I1 q) fun ws s2 ⟨zs, H2, I2, rz, q2, hj⟩ => ⟨I2.kIn, ?_⟩) hpl
  rw [hks]
  have r2 : Vals (V.ref a :: permX pm .non zs) (Value.ref a :: permX pm .none ws) := .cons rfl (vals_perm rz pm hj)
  have hl : (Value.ref a :: permX pm .none ws).length = ps.length := by rw [← r2.length]; exact F.len _ _ _ _ q2
  have lw : ks.length ≤ ws.length := by rw [← rz.length]; exact hpm _ hj
  refine wpAny_call (codeAny_mono (F.run X.A X.stack s2 H2 ⟨[.ref a], ks.zip ws⟩ (.ref a :: permX pm .none ws) (.ref a :: permX pm .non zs) Q (WE W σ) hr I2.env0 (hb s2 (.ref a) ws lw) r2 q2) fun r s' hq => ?_)
  cases r with
  | error e => exact passAt tk σ pins H2 s2 e s' I2 hq
  | ok fl =>
    cases fl with
    | ret u => exact I2.after hq
    | next => exact False.elim hq
    | brk => exact False.elim hq
    | cont => exact False.elim hq
end
end Am

set_option maxHeartbeats 4000000
namespace Am
open PySem PySem.Spec PyProof.Rows L2
variable [CN]
section
variable {K : PySem.W.Frag} {H H' : Hp} {Z Z' : ZP}
theorem RL.app {v : AV} {x : V} {Fx : List Addr} (h : RA K H Z v x Fx) : ∀ {vs : List AV} {xs : List V} {F : List Addr}, RL K H Z vs xs F → RL K H Z (vs ++ [v]) (xs ++ [x]) (F ++ Fx)
  | [], _, _, ⟨rfl, rfl⟩ => ⟨x, [], Fx, [], rfl, by rw [List.append_nil]; rfl, h, rfl, rfl⟩
  | u :: r, _, _, ⟨y, q, F1, F2, e, ef, h1, h2⟩ => by
    subst e ef
    exact ⟨y, _, F1, F2 ++ Fx, rfl, by rw [List.append_assoc], h1, RL.app h h2⟩
/-- one's own becomes data -/
theorem Step.toZ {F : List Addr} {D : Addr} : Step H Z (F ++ [D]) H (fun a => Z a ∨ a ∈ [D]) F := .frz
end
section
variable {X : Cx} {rx : RX} {c : Am.Ctx} {W : WX} {e : Expr} {pos : Pos} {me t : ME} {it : MI}
theorem lcO_run {σ : L2.St} {H : Hp} {Q : VK} {own : List Nat} {sg : List Bool} (hsg : ∀ i, getL sg i = some true → i ∈ own) (h : tE X.K rx c W (.lcO me t it own) σ H Q) : tLc (tI X.K rx c W t it) (tG X.K sg t) tYes (tE X.K rx c W0 me) own σ H Q := by
  obtain ⟨α, Z, F, P, X', I, w⟩ := tE.el h
  refine ⟨α, Z, F, _, X', I.rs, I.g, w, I.hX, fun xs gd ex α1 ⟨hz, w1⟩ H1 Z1 F1 J s1 g1 rs1 later D hD => ?_⟩
  have n : New H1 Z1 (upd H1 D (.lst [])) Z1 [D] := .own hD trivial
  obtain ⟨sn, gn⟩ := n F1 g1
  obtain ⟨F1b, rst, rsb, pb⟩ := (rs1.new n g1.zt).wipe own
  have datas : ∀ i dd, getS α1 i = some (.p dd) → ∃ x, σ[i]? = some (some x) ∧ RD X.K H1 Z1 dd x := fun i dd e => by
    obtain ⟨x, Fi, Fr, h1, h2, _⟩ := rs1.get e
    exact ⟨x, h1, h2.1⟩
  have key : ∀ ys α2, gd α2 → P (.oi 0 (someL ys)) (dat own α1 (Am.wipe own (ex α2))) → ∀ H' Z' F' Fa av, Step (upd H1 D (.lst [])) Z1 (F1 ++ [D]) H' Z' (F' ++ (Fa ++ [D])) → G3 H' Z' (F' ++ (Fa ++ [D])) → RS X.K H' Z' α2 (L2.wipe σ own) F' → H' D = some (.lst av) → RL X.K H' Z' ys av Fa → Q (.ref D) H' := fun ys α2 hg hp H' Z' F' Fa av st g' rs' hd hr => by
    have sl : Step H1 Z1 F1 H' Z' F' := (sn.trans st).lessR fun _ h => List.mem_append_left _ h
    obtain ⟨rs2, _⟩ := later H' Z' α2 (L2.wipe σ own) F' sl g'.left rs' hg
    obtain ⟨F2, r2, rs3, p3⟩ := RS.unwipe rs2
    obtain ⟨F3, r3, rs4, p4⟩ := RS.dat (own := own) (α1 := α1) rs3 fun i dd e => by
      obtain ⟨x, h1, h2⟩ := datas i dd e
      exact ⟨x, h1, RD.keep (sl.keep g1) dd h2⟩
    have p5 : F'.Perm (F3 ++ (r3 ++ r2)) := p3.trans ((List.Perm.append_right r2 p4).trans (by rw [List.append_assoc]))
    -- D becomes what is not changed
    have pq : (F' ++ (Fa ++ [D])).Perm ((F3 ++ Fa) ++ (r3 ++ r2) ++ [D]) := by
      rw [← List.append_assoc]
      refine List.Perm.append_right [D] ?_
      refine (List.Perm.append_right Fa p5).trans assoc3'
    have s2 := ((s1.trans (sn.trans st)).permR pq).trans Step.toZ
    have g2 := (g'.perm pq).frz
    have hz : ∀ a, Z' a → Z' a ∨ a ∈ [D] := fun _ z => .inl z
    exact I.fin hp (s2.lessR fun _ h => List.mem_append_left _ h) g2.left (rs4.keepZ hz) ⟨D, av, rfl, ⟨.inr (by simp), hd⟩, hr.somes.keepZ hz⟩
  refine ⟨fun i m H' => m = xs.length - i ∧ ∃ α' Z' F' Fa acc av, H' D = some (.lst av) ∧ RL X.K H' Z' acc av Fa ∧ acc.length ≤ i ∧ Step (upd H1 D (.lst [])) Z1 (F1 ++ [D]) H' Z' (F' ++ (Fa ++ [D])) ∧ G3 H' Z' (F' ++ (Fa ++ [D])) ∧ RS X.K H' Z' α' (L2.wipe σ own) F' ∧
    loopO own (fun d β k => wpG t d β k) (fun β k => wpE c me β k fun _ _ _ => False) gd (xs.drop i) acc α' fun ys α2 => P (.oi 0 (someL ys)) (dat own α1 (Am.wipe own (ex α2))), ⟨_, rfl, Am.wipe own α1, Z1, F1b, [], [], [], upd_same, ⟨rfl, rfl⟩, Nat.le_refl _, ?_, ?_, rsb, w1⟩, ?_⟩
  · exact (Step.refl.permR ((List.Perm.append_right [D] pb).trans assoc3')).lessR fun _ h => List.mem_append_left _ h
  · exact (gn.perm ((List.Perm.append_right [D] pb).trans assoc3')).left
  rintro i m H' ⟨rfl, α', Z', F', Fa, acc, av, hd, hr, ha, st, g', rs', w⟩
  have sl : Step H1 Z1 F1 H' Z' F' := (sn.trans st).lessR fun _ h => List.mem_append_left _ h
  cases e : xs.drop i with
  | nil =>
    rw [e] at w
    obtain ⟨hgd, w⟩ : gd α' ∧ P (.oi 0 (someL acc)) (dat own α1 (Am.wipe own (ex α'))) := w
    obtain ⟨_, dr⟩ := later H' Z' α' _ F' sl g'.left rs' hgd
    exact .inl ⟨dr.2 i (by simpa using e), key acc α' hgd w H' Z' F' Fa av st g' rs' hd hr⟩
  | cons dd r =>
    obtain ⟨e1, e2, e3⟩ := In.at1 e
    rw [e] at w
    obtain ⟨hgd, w⟩ : gd α' ∧ wpG t dd α' fun α2 => wpE c me α2 (fun v α4 => loopO own (fun d β k => wpG t d β k) (fun β k => wpE c me β k fun _ _ _ => False) gd r (acc ++ [v]) (Am.wipe own α4) fun ys α2 => P (.oi 0 (someL ys)) (dat own α1 (Am.wipe own (ex α2)))) fun _ _ _ => False := w
    obtain ⟨_, dr⟩ := later H' Z' α' _ F' sl g'.left rs' hgd
    obtain ⟨go, yl⟩ := dr.1 i e3
    refine .inr ⟨go, fun H2 => ∃ m', m' < xs.length - i ∧ m' = xs.length - (i + 1) ∧ ∃ α' Z' F' Fa acc av, H2 D = some (.lst av) ∧ RL X.K H2 Z' acc av Fa ∧ acc.length ≤ i + 1 ∧ Step (upd H1 D (.lst [])) Z1 (F1 ++ [D]) H2 Z' (F' ++ (Fa ++ [D])) ∧ G3 H2 Z' (F' ++ (Fa ++ [D])) ∧ RS X.K H2 Z' α' (L2.wipe σ own) F' ∧
      loopO own (fun d β k => wpG t d β k) (fun β k => wpE c me β k fun _ _ _ => False) gd (xs.drop (i + 1)) acc α' fun ys α2 => P (.oi 0 (someL ys)) (dat own α1 (Am.wipe own (ex α2))), fun H2 ⟨m', a, b, q⟩ => ⟨m', a, b, q⟩, fun x H2 hy => ?_⟩
    obtain ⟨d', ed, nw, ry⟩ := yl x H2 hy
    rw [e1] at ed
    cases ed
    obtain ⟨s2n, g2n⟩ := nw F' g'.left
    rw [List.append_nil] at s2n g2n
    have s2 := s2n.beside g'
    have g2 := G3.beside g' s2n g2n
    have rs3 := rs'.new nw g'.zt
    have hDF : D ∉ F' := fun hm => g'.dis D (by simp) hm
    have hd2 : H2 D = some (.lst av) := s2n.fr D _ hd hDF
    have hr2 : RL X.K H2 Z' acc av Fa := hr.frame g'.left s2n fun a ha => g'.dis a (List.mem_append_left _ ha)
    refine ⟨α', Z', F', dd, _, rs3, g2.left, ry.rg w, w, fun α2 σ2 F2 s3 g3 sm rs4 w2 => ⟨wipe_same sm hsg, ?_⟩⟩
    have hw2 : L2.wipe σ2 own = L2.wipe σ own := wipe_same sm hsg
    have s3b := (st.trans s2).trans (s3.beside g2)
    have g3b := G3.beside g2 s3 g3
    unfold tYes
    dsimp only
    rw [if_pos rfl]
    refine ⟨α2, Z', F2, _, fun _ _ _ => False, rs4, g3, w2, fun v α4 wl H4 Z4 F4 y Fx s4 g4 rs5 r5 => ?_, fun _ _ _ h => h.elim⟩
    have hDF2 : D ∉ F2 := fun hm => g3b.dis D (by simp) hm
    have hd4 : H4 D = some (.lst av) := s4.fr D _ hd2 hDF2
    have hr4 : RL X.K H4 Z4 acc av Fa := hr2.frame g3 s4 fun a ha => g3b.dis a (List.mem_append_left _ ha)
    have s5 := s4.beside g3b
    have g5 := G3.beside g3b s4 g4
    -- (F4 ++ Fx) ++ (Fa ++ [D])
    have pp : ((F4 ++ Fx) ++ (Fa ++ [D])).Perm ([D] ++ (F4 ++ (Fa ++ Fx))) := by
      refine List.Perm.trans ?_ (List.perm_append_comm (l₁ := F4 ++ (Fa ++ Fx)) (l₂ := [D]))
      rw [← List.append_assoc]
      refine List.Perm.append_right [D] ?_
      rw [List.append_assoc]
      exact List.Perm.append_left F4 List.perm_append_comm
    have s6 := (s3b.trans s5).permR pp
    have g6 := g5.perm pp
    have gD : G3 H4 Z4 [D] := g6.left
    have sw : Step H4 Z4 [D] (upd H4 D (.lst (av ++ [y]))) Z4 [D] := .wr (by simp)
    have hr6 : RL X.K (upd H4 D (.lst (av ++ [y]))) Z4 (acc ++ [v]) (av ++ [y]) (Fa ++ Fx) := (RL.app r5 hr4).frame gD sw fun a ha => g6.dis a (List.mem_append_right _ ha)
    have rs6 : RS X.K (upd H4 D (.lst (av ++ [y]))) Z4 α4 σ2 F4 := rs5.frame gD sw fun a ha => g6.dis a (List.mem_append_left _ ha)
    have pq : ([D] ++ (F4 ++ (Fa ++ Fx))).Perm (F4 ++ ((Fa ++ Fx) ++ [D])) := by
      refine List.perm_append_comm.trans ?_
      rw [List.append_assoc]
    have s7 := (s6.trans (sw.beside g6)).permR pq
    have g7 := (G3.beside g6 sw (G3.wr (o := .lst (av ++ [y])) trivial gD)).perm pq
    have hzl : av.length < sizeLine := by
      rw [← hr4.len, ← big_eq]
      omega
    obtain ⟨F5, rst5, rs7, p7⟩ := rs6.wipe own
    rw [hw2] at rs7
    have pr : (F4 ++ ((Fa ++ Fx) ++ [D])).Perm ((F5 ++ ((Fa ++ Fx) ++ [D])) ++ rst5) := (List.Perm.append_right _ p7).trans assoc3'
    exact ⟨av, hd4, hzl, _, by omega, rfl, Am.wipe own α4, Z4, F5, Fa ++ Fx, acc ++ [v], av ++ [y], upd_same, hr6, by rw [List.length_append]; simp; omega, (s7.permR pr).lessR fun _ h => List.mem_append_left _ h, (g7.perm pr).left, rs7, by rw [e2]; exact wl⟩
theorem s_lcO {elt tg iter : Expr} {scope : Scope} {own : List (Str × Nat)} {sg : List Bool} (hc : X.calm = true) (hN : X.N.Nodup) (hi : PI X tg iter (tI X.K rx c W t it)) (ok : BlkOk X.N X.env.scope scope own)
    (hg : ∀ (s : Shared) (H : Hp) (C : Addr) (cl : List (Str × Addr)) (fp : List Addr), PG (X.blk s H scope (compEnvC scope cl C X.env) fp) tg (tG X.K sg t))
    (he : ∀ (s : Shared) (H : Hp) (C : Addr) (cl : List (Str × Addr)) (fp : List Addr), PE (X.blk s H scope (compEnvC scope cl C X.env) fp) elt (tE X.K rx c W0 me)) (hsg : sgOk sg (own.map (·.2)) = true := by rfl)
    (hs : ∀ x, foldedSetIterable iter X.env x = pure x := by intro _; rfl) : PE X (.ListComp elt [⟨tg, iter, [], 0⟩] scope pos) (tE X.K rx c W (.lcO me t it (own.map (·.2)))) :=
  PE.weak (pe_lc hc hN hi ok hg (fun _ _ _ _ _ => pts_nil) he hs) fun σ H Q h => lcO_run (sgOk.el hsg) h
/-- y = [.. for ..] -/
theorem s_setLcO {elt tg iter : Expr} {scope : Scope} {own : List (Str × Nat)} {sg sg' : List Bool} {i : Nat} {y : Str} {py spos : Pos} (hc : X.calm = true) (hN : X.N.Nodup) (hi : PI X tg iter (tI X.K rx c W t it)) (ok : BlkOk X.N X.env.scope scope own)
    (hg : ∀ (s : Shared) (H : Hp) (C : Addr) (cl : List (Str × Addr)) (fp : List Addr), PG (X.blk s H scope (compEnvC scope cl C X.env) fp) tg (tG X.K sg t))
    (he : ∀ (s : Shared) (H : Hp) (C : Addr) (cl : List (Str × Addr)) (fp : List Addr), PE (X.blk s H scope (compEnvC scope cl C X.env) fp) elt (tE X.K rx c W0 me)) (hy : X.N[i]? = some y := by rfl) (hyg : getL sg' i = some true := by rfl) (hyl : X.env.scope.names.lookup y = some .local := by rfl)
    (hsw : swapsWith (.ListComp elt [⟨tg, iter, [], 0⟩] scope pos) (some (.Name y py)) spos.line X.env = pure true := by rfl)
    (hsg : sgOk sg (own.map (·.2)) = true := by rfl) (hs : ∀ x, foldedSetIterable iter X.env x = pure x := by intro _; rfl) : PS X (.Assign [.Name y py] (.ListComp elt [⟨tg, iter, [], 0⟩] scope pos) spos) (tS X.K rx c W sg' (.asg (.pl (.v i)) (.lcO me t it (own.map (·.2))))) :=
  PS.weak (ps_setLc hc hN hy hyl hsw hi ok hg (fun _ _ _ _ _ => pts_nil) he hs) fun D σ H ⟨α, Z, F, N, X', I, w⟩ => by
  have h : tE X.K rx c W (.lcO me t it (own.map (·.2))) σ H (fun x H1 => gName i x σ H1 D.nx) := by
    have w : wpE c (.lcO me t it (own.map (·.2))) α (fun v α1 => N.nx (setS α1 i (some v))) X' := w
    refine I.val w fun v α1 H1 Z1 F1 x Fx w1 I1 s1 g1 r1 => ?_
    obtain ⟨F2, I2⟩ := I.put s1 g1 I1.rs r1 hyg
    exact I2.nxt w1
  exact lcO_run (sgOk.el hsg) h
end
end Am

set_option maxHeartbeats 4000000
namespace Am
open PySem PySem.Spec PyProof.Rows L2
variable [CN]
section
variable {X : Cx} {rx : RX} {c : Am.Ctx} {W : WX} {e : Expr} {pos : Pos} {me : ME}
theorem lcP_run {σ : L2.St} {H : Hp} {Q : VK} {i p : Nat} (hip : i ≠ p) (h : tE X.K rx c W (.lcP me i p [i]) σ H Q) : tLc (iAny X.K (tVar p)) (gName i) tYes (tE X.K rx c W0 me) [i] σ H Q := by
  obtain ⟨α, Z, F, P, X', I, w⟩ := tE.el h
  have w : onO (getS α p) fun o => match o with
    | .oi c0 fs => (match c0 with
      | 0 => fs.length ≤ big ∧ loopP i p (fun β k => wpE c me β k fun _ _ _ => False) fs.length 0 [] (Am.wipe [i] α) fun ys α2 => P (.ol ys) (dat [i] α (Am.wipe [i] α2))
      | _ => False)
    | _ => False := w
  obtain ⟨o, eo, w⟩ := onO.el w
  have ex : ∃ fs, o = .oi 0 fs ∧ fs.length ≤ big ∧ loopP i p (fun β k => wpE c me β k fun _ _ _ => False) fs.length 0 [] (Am.wipe [i] α) fun ys α2 => P (.ol ys) (dat [i] α (Am.wipe [i] α2)) := by
    cases o with
    | oi c0 fs =>
      cases c0 with
      | zero => exact ⟨fs, rfl, w⟩
      | succ n => exact w.elim
    | _ => exact w.elim
  obtain ⟨fs, rfl, hz, w⟩ := ex
  obtain ⟨x0, Fi0, Fr0, hx0, ⟨a, vs, rfl, sh, ras⟩, _⟩ := I.rs.get eo
  have hn : fs.length = vs.length := by rw [ras.len, List.length_map]
  have datas : ∀ j dd, getS α j = some (.p dd) → ∃ x, σ[j]? = some (some x) ∧ RD X.K H Z dd x := fun j dd e => by
    obtain ⟨x, Fi, Fr, h1, h2, _⟩ := I.rs.get e
    exact ⟨x, h1, h2.1⟩
  refine ⟨.ref a, hx0, .inl ⟨a, vs, rfl, .inl (.inl sh.2), fun D hD => ?_⟩⟩
  have n : New H Z (upd H D (.lst [])) Z [D] := .own hD trivial
  obtain ⟨sn, gn⟩ := n F I.g
  obtain ⟨F1b, rst, rsb, pb⟩ := (I.rs.new n I.g.zt).wipe [i]
  have key : ∀ ys α2, P (.ol ys) (dat [i] α (Am.wipe [i] α2)) → ∀ H' Z' F' av, Step (upd H D (.lst [])) Z (F ++ [D]) H' Z' (F' ++ [D]) → G3 H' Z' (F' ++ [D]) → RS X.K H' Z' α2 (L2.wipe σ [i]) F' → H' D = some (.lst av) → RDs X.K H' Z' ys av → Q (.ref D) H' := fun ys α2 hp H' Z' F' av st g' rs' hd hr => by
    have sl : Step H Z F H' Z' F' := (sn.trans st).lessR fun _ h => List.mem_append_left _ h
    obtain ⟨F2, r2, rs3, p3⟩ := RS.unwipe rs'
    obtain ⟨F3, r3, rs4, p4⟩ := RS.dat (own := [i]) (α1 := α) rs3 fun j dd e => by
      obtain ⟨x, h1, h2⟩ := datas j dd e
      exact ⟨x, h1, RD.keep (sl.keep I.g) dd h2⟩
    have p5 : F'.Perm (F3 ++ (r3 ++ r2)) := p3.trans ((List.Perm.append_right r2 p4).trans (by rw [List.append_assoc]))
    have pp : (F' ++ [D]).Perm ((F3 ++ [D]) ++ (r3 ++ r2)) := (List.Perm.append_right [D] p5).trans assoc3'
    exact I.fin hp (((sn.trans st).permR pp).lessR fun _ h => List.mem_append_left _ h) (g'.perm pp).left rs4 ⟨D, av, rfl, rfl, hd, hr⟩
  refine ⟨fun j m H' => m = vs.length - j ∧ ∃ α' Z' F' acc av, H' D = some (.lst av) ∧ RDs X.K H' Z' acc av ∧ acc.length ≤ j ∧ Step (upd H D (.lst [])) Z (F ++ [D]) H' Z' (F' ++ [D]) ∧ G3 H' Z' (F' ++ [D]) ∧ RS X.K H' Z' α' (L2.wipe σ [i]) F' ∧
    loopP i p (fun β k => wpE c me β k fun _ _ _ => False) (fs.length - j) j acc α' fun ys α2 => P (.ol ys) (dat [i] α (Am.wipe [i] α2)), ⟨_, rfl, Am.wipe [i] α, Z, F1b, [], [], upd_same, rfl, Nat.le_refl _, ?_, ?_, rsb, w⟩, ?_⟩
  · exact (Step.refl.permR ((List.Perm.append_right [D] pb).trans assoc3')).lessR fun _ h => List.mem_append_left _ h
  · exact (gn.perm ((List.Perm.append_right [D] pb).trans assoc3')).left
  rintro j m H' ⟨rfl, α', Z', F', acc, av, hd, hr, ha, st, g', rs', w⟩
  have sl : Step H Z F H' Z' F' := (sn.trans st).lessR fun _ h => List.mem_append_left _ h
  have sh' : Shell H' Z' 0 a vs := (sl.keep I.g).shell sh
  have hσp : (L2.wipe σ [i])[p]? = some (some (.ref a)) := by
    show (σ.set i none)[p]? = _
    rw [List.getElem?_set_ne hip]
    exact hx0
  cases e : fs.length - j with
  | zero =>
    rw [e] at w
    exact .inl ⟨⟨vs, .inl (.inl sh'.2), by omega⟩, key acc α' w H' Z' F' av st g' rs' hd hr⟩
  | succ q =>
    have hj : j < vs.length := by omega
    rw [e] at w
    have w : onO (getP (.f (.v p) 0 j) α') fun v => wpE c me (setS (setP (.f (.v p) 0 j) α' none) i (some v)) (fun d α2 => onO (toD d) fun d => onO (getS α2 i) fun v2 => loopP i p (fun β k => wpE c me β k fun _ _ _ => False) q (j + 1) (acc ++ [d]) (setP (.f (.v p) 0 j) (setS α2 i none) (some v2)) fun ys α2 => P (.ol ys) (dat [i] α (Am.wipe [i] α2))) (fun _ _ _ => False) := w
    obtain ⟨v, ev, w⟩ := onO.el w
    obtain ⟨x', Fi, Fr, hpa, rv, pm, _, gone⟩ := rs'.lens ev
    obtain ⟨a', vs', hp0, sh2, ex⟩ := hpa
    have hp0 : (L2.wipe σ [i])[p]? = some (some (.ref a')) := hp0
    rw [hσp] at hp0
    cases hp0
    have evs := sh'.fn sh2
    subst evs
    refine .inr ⟨⟨vs, x', .inl (.inl sh'.2), ex⟩, fun H2 => ∃ m', m' < vs.length - j ∧ m' = vs.length - (j + 1) ∧ ∃ α' Z' F' acc av, H2 D = some (.lst av) ∧ RDs X.K H2 Z' acc av ∧ acc.length ≤ j + 1 ∧ Step (upd H D (.lst [])) Z (F ++ [D]) H2 Z' (F' ++ [D]) ∧ G3 H2 Z' (F' ++ [D]) ∧ RS X.K H2 Z' α' (L2.wipe σ [i]) F' ∧
      loopP i p (fun β k => wpE c me β k fun _ _ _ => False) (fs.length - (j + 1)) (j + 1) acc α' fun ys α2 => P (.ol ys) (dat [i] α (Am.wipe [i] α2)), fun H2 ⟨m', a, b, q⟩ => ⟨m', a, b, q⟩, fun x H2 hy => ?_⟩
    obtain ⟨rfl, hy⟩ := hy
    have ey := hy vs (.inl (.inl sh'.2))
    rw [ex] at ey
    cases ey
    -- the item goes to the name's slot
    obtain ⟨F2, rest2, rs2, p2⟩ := gone.putV (i := i) rv
    have pA : F'.Perm (F2 ++ rest2) := pm.trans (List.perm_append_comm.trans p2)
    have pp : (F' ++ [D]).Perm ((F2 ++ [D]) ++ rest2) := (List.Perm.append_right [D] pA).trans assoc3'
    have st2 := (st.permR pp).lessR fun _ h => List.mem_append_left _ h
    have g2 := (g'.perm pp).left
    have hws : ∀ y, L2.wipe ((L2.wipe σ [i]).set i y) [i] = L2.wipe σ [i] := fun y => by
      show (((σ.set i none).set i y).set i none) = σ.set i none
      rw [List.set_set, List.set_set]
    show L2.wipe ((L2.wipe σ [i]).set i (some x')) [i] = L2.wipe σ [i] ∧ _
    refine ⟨hws _, ?_⟩
    unfold tYes
    dsimp only
    rw [if_pos rfl]
    refine ⟨_, Z', F2, _, fun _ _ _ => False, rs2, g2.left, w, fun d α2 hk H4 Z4 F4 y Fx s4 g4 rs4 r4 => ?_, fun _ _ _ h => h.elim⟩
    obtain ⟨d4, ed4, hk⟩ := onO.el hk
    obtain ⟨v2, ev2, wl⟩ := onO.el hk
    have hDF2 : D ∉ F2 := fun hm => g2.dis D (by simp) hm
    have hd4 : H4 D = some (.lst av) := s4.fr D _ hd hDF2
    have hr4 : RDs X.K H4 Z4 acc av := RDs.keep (s4.keep g2.left) acc hr
    have s5 := s4.beside g2
    have g5 := G3.beside g2 s4 g4
    have pq : ((F4 ++ Fx) ++ [D]).Perm ((F4 ++ [D]) ++ Fx) := assoc3'
    have s6 := ((st2.trans s5).permR pq).trans .frz
    have g6 := (g5.perm pq).frz
    have rd : RD X.K H4 (fun a => Z4 a ∨ a ∈ Fx) d4 y := r4.toD ed4
    have hr6 : RDs X.K H4 (fun a => Z4 a ∨ a ∈ Fx) (acc ++ [d4]) (av ++ [y]) := (RDs.keep (.z fun _ z => .inl z) acc hr4).app ⟨y, [], rfl, rd, rfl⟩
    have rs6 : RS X.K H4 (fun a => Z4 a ∨ a ∈ Fx) α2 ((L2.wipe σ [i]).set i (some x')) F4 := rs4.keepZ fun _ z => .inl z
    -- the item goes back
    obtain ⟨x3, Fi3, Fr3, h3, r3, p3, _, gone3⟩ := rs6.get ev2
    have hil : i < (L2.wipe σ [i]).length := by
      rcases Nat.lt_or_ge i (L2.wipe σ [i]).length with h | h
      · exact h
      · rw [List.getElem?_eq_none (by rw [List.length_set]; exact h)] at h3
        cases h3
    rw [List.getElem?_set_self hil] at h3
    cases h3
    obtain ⟨F7, r7, rs7, p7⟩ := gone3.putN (i := i) (y := none)
    rw [setS_setS] at rs7
    have eσ : ((L2.wipe σ [i]).set i (some x')).set i none = L2.wipe σ [i] := by
      show (((σ.set i none).set i (some x')).set i none) = σ.set i none
      rw [List.set_set, List.set_set]
    rw [eσ] at rs7
    have sh4 : Shell H4 (fun a => Z4 a ∨ a ∈ Fx) 0 a vs := Keep.shell (.z fun _ z => .inl z) ((s4.keep g2.left).shell sh')
    obtain ⟨F8, r8, rs8, p8⟩ := (rs7.backP (p := .f (.v p) 0 j) (x := x') ⟨a, vs, hσp, sh4, ex⟩).1 v2 Fi3 r3
    have pB : F4.Perm (F8 ++ (r8 ++ r7)) := by
      refine p3.trans (List.perm_append_comm.trans ?_)
      refine (List.Perm.append_right Fi3 p7).trans ?_
      refine assoc3'.trans ?_
      refine (List.Perm.append_right r7 p8).trans ?_
      rw [List.append_assoc]
    have pC : (F4 ++ [D]).Perm ((F8 ++ [D]) ++ (r8 ++ r7)) := (List.Perm.append_right [D] pB).trans assoc3'
    have s8 := (s6.permR pC).lessR fun _ h => List.mem_append_left _ h
    have g8 := (g6.perm pC).left
    have gD : G3 H4 (fun a => Z4 a ∨ a ∈ Fx) [D] := g8.right
    have sw : Step H4 (fun a => Z4 a ∨ a ∈ Fx) [D] (upd H4 D (.lst (av ++ [y]))) (fun a => Z4 a ∨ a ∈ Fx) [D] := .wr (by simp)
    have gp := g8.perm (List.perm_append_comm (l₁ := F8) (l₂ := [D]))
    have s9 := ((s8.permR (List.perm_append_comm (l₁ := F8) (l₂ := [D]))).trans (sw.beside gp)).permR (List.perm_append_comm (l₁ := [D]) (l₂ := F8))
    have g9 := (G3.beside gp sw (G3.wr (o := .lst (av ++ [y])) trivial gD)).perm (List.perm_append_comm (l₁ := [D]) (l₂ := F8))
    have hzl : av.length < sizeLine := by
      rw [← hr4.len, ← big_eq]
      omega
    exact ⟨av, hd4, hzl, _, by omega, rfl, _, _, F8, acc ++ [d4], av ++ [y], upd_same, RDs.wr gD hr6, by rw [List.length_append]; simp; omega, s9, g9, rs8.frame gD sw gp.dis, by rw [show fs.length - (j + 1) = q by omega]; exact wl⟩
theorem pg_nm {i : Nat} {x : Str} (hN : X.N.Nodup) (hi : X.N[i]? = some x := by rfl) (hx : Loc X.env.scope x := by first | exact .inl rfl | exact .inr rfl) (hf : X.fn x = true ∨ X.env.scope.names.lookup x = some .local := by first | exact .inl rfl | exact .inr rfl | assumption) : PG X (.Name x pos) (gName i) := pg_name hN hi hx hf
theorem s_lcP {elt : Expr} {x n : Str} {px pn : Pos} {scope : Scope} {own : List (Str × Nat)} {i p : Nat} (hc : X.calm = true) (hN : X.N.Nodup) (ok : BlkOk X.N X.env.scope scope own) (ho : own.map (·.2) = [i]) (hv : PE X (.Name n pn) (tVar p))
    (hg : ∀ (s : Shared) (H : Hp) (C : Addr) (cl : List (Str × Addr)) (fp : List Addr), PG (X.blk s H scope (compEnvC scope cl C X.env) fp) (.Name x px) (gName i))
    (he : ∀ (s : Shared) (H : Hp) (C : Addr) (cl : List (Str × Addr)) (fp : List Addr), PE (X.blk s H scope (compEnvC scope cl C X.env) fp) elt (tE X.K rx c W0 me)) (hip : i ≠ p := by decide)
    (hs : ∀ y, foldedSetIterable (.Name n pn) X.env y = pure y := by intro _; rfl) : PE X (.ListComp elt [⟨.Name x px, .Name n pn, [], 0⟩] scope pos) (tE X.K rx c W (.lcP me i p [i])) :=
  PE.weak (pe_lc hc hN (pi_any hv) ok hg (fun _ _ _ _ _ => pts_nil) he hs) fun σ H Q h => by
    rw [ho]
    exact lcP_run hip h
end
end Am

set_option maxHeartbeats 4000000
namespace L2
open PySem PySem.Spec PyProof.Rows
theorem pe_mkT {X : Cx} {C : Addr} {bmB : List Value} {B newId initId : String} {x m : Str} {j : Nat} {p p2 pos : Pos} (F : ExcBaseFacts B newId initId bmB) (q : PySem.W.excIn X.K C bmB newId = true) (gC : X.mg x = some (.ref C)) (kC : PySem.W.keepIn X.K (.ref C) = true) (hg : Gl X x)
    (hdb : (x == ("__debug__" : Str)) = false) :
    PE X (.Call (.Name x p) [.Constant (.str m) j p2] [] pos) (fun _ H Q => ∀ (a t : Addr) (oe ot : Obj), H a = none → H t = none → a ≠ t → oe.cls = .ref C → oe.dict = none → (∃ vs, oe.data = .fields vs ∧ vs[0]? = some (.ref t)) → ot.cls = .type "tuple" → (∃ tk n, ot.data = .seq #[.str m tk] n) → Q (.ref a) (upd (upd H t (Am.EO t ot)) a (Am.EO a oe))) := by
  refine ⟨fun pins s σ H Q I h => ?_⟩
  refine wpAny_Call_Name_kw (ld_glob I hg gC ?_ hdb)
  have ha : PA X [.Constant (.str m) j p2] (tCons (tC (.str m)) tNil) := pa_cons pe_str pa_nil
  refine PySem.W.callWith_K (h₀ := X.base) I.ok.mod.kin kC (thn (ha.run pos pins s σ H (fun vs H1 => vs = [V.str m] ∧ H = H1) I ⟨rfl, rfl⟩) fun us s1 hh => ?_)
  obtain ⟨vs, H1, I1, r1, ev, eH⟩ := hh
  subst ev
  rw [← eH] at I1
  refine ⟨I1.kIn, ?_⟩
  cases r1 with
  | cons ru rn =>
    rename_i u us'
    cases rn
    obtain ⟨tk, rfl⟩ : ∃ tk, u = .str m tk := ru
    show wpAny _ _ (call (.ref C) [.str m tk]) _ _ _
    obtain ⟨bm, N, nm, qn, bs, hdct, sn, sub, ab, col, dd, k0, k1, k2, k3, k5, mN, hC, hN, hni, T⟩ := exc_obj I1.kIn q
    refine wpAny_call_exc_subT F T hC hN hni (fun h' e hm => ?_) (by show 1 ≤ sizeLine; rw [sizeLine_eq]; omega)
    obtain ⟨t, he, ht0, ht⟩ := hm.there
    have ne : e ≠ t := fun z => by
      subst z
      rw [he] at ht
      cases ht
    have nt : H t = none := I1.hok.gone ht0
    have na : H e = none := I1.hok.gone hm.new
    have fin : ∀ (oe ot : Obj), h'.get? e = some oe → h'.get? t = some ot → oe.cls = .ref C → oe.dict = none → (∃ vs, oe.data = .fields vs ∧ vs[0]? = some (.ref t)) → ot.cls = .type "tuple" → (∃ tk n, ot.data = .seq #[.str m tk] n) → EP X pins σ Q (.ref e) ⟨h', s1.gens, s1.drawn, s1.toks, s1.os⟩ := fun oe ot he ht c1 c2 c3 c4 c5 => by
      have na2 : upd H t (Am.EO t ot) e = none := by rw [upd_ne ne]; exact na
      have newT : ObjOk X.prog X.w (upd H t (Am.EO t ot)) h' t (Am.EO t ot) := ⟨ht, ⟨_, ht⟩, fun h1 h2 q k => k _ q⟩
      have newE : ObjOk X.prog X.w (upd (upd H t (Am.EO t ot)) e (Am.EO e oe)) h' e (Am.EO e oe) := ⟨he, ⟨_, he⟩, fun h1 h2 q k => k _ q⟩
      have J := I1.un (h' := h') (t' := s1.toks) ((Un.laidN (fun _ _ q => q) ht0 nt).trans (Un.laidN hm.keeps hm.new na2)) ((I1.hok.laidN hm.keeps nt newT).laidN (fun _ _ q => q) na2 newE)
      exact ⟨.ref e, _, J, rfl, h e t oe ot na nt ne c1 c2 c3 c4 c5⟩
    exact fin _ _ he ht rfl rfl ⟨_, rfl, rfl⟩ rfl ⟨tk, _, rfl⟩
/-- str(e), e an exception that keeps its text -/
theorem pe_strE {X : Cx} {e : Expr} {te : TE} {ps pos : Pos} (hu : X.A.units + 190 < cLine) (he : PE X e te) (hgs : Gl X "str") (hms : X.mg "str" = none)
    (na : starEach [e] X.env = (false, eval e X.env) :: starEach [] X.env := by rfl) :
    PE X (.Call (.Name "str" ps) [e] [] pos) (fun σ H Q => te σ H fun x H1 => ∃ (C a t : Addr) (oe ot : Obj) (m : Str), x = .ref a ∧ H1 a = some (Am.EO a oe) ∧ H1 t = some (Am.EO t ot) ∧ oe.cls = .ref C ∧ (∃ vs, oe.data = .fields vs ∧ vs[0]? = some (.ref t)) ∧ ot.cls = .type "tuple" ∧ (∃ tk n, ot.data = .seq #[.str m tk] n) ∧
      PySem.W.findIn X.K (.ref C) "__str__" = some (some (.builtin "BaseException.__str__")) ∧ PySem.W.subIn X.K (.ref C) (.type "BaseException") = some true ∧ Q (.str m) H1) := by
  refine ⟨fun pins s σ H Q I h => ?_⟩
  refine wpAny_Call_Name_kw (ld_blt I hgs hms rfl ?_ (by decide) (by decide))
  refine PyProof.Rows.callWith_type1 (args_cons ?_ na) na
  refine thn (he.run pins s σ H _ I h) fun u s1 ⟨x, H1, I1, rx, C, a, t, oe, ot, m, ex, h1, h2, c1, c2, c3, ⟨tk, n, c4⟩, hs, hB, q⟩ => ?_
  subst ex
  obtain rfl : u = Value.ref a := rx
  refine args_nil ?_
  obtain ⟨vs, d1, d2⟩ := c2
  refine P.str_of_C_one (C := C) (t0 := t) (m := m) (tk := tk) (by omega) ⟨I1.kIn, oe, vs, (I1.hok a _ h1).1, c1, d1, d2⟩ ⟨ot, n, (I1.hok t _ h2).1, c3, c4⟩ hs hB ?_
  exact ⟨.str m, H1, I1, ⟨tk, rfl⟩, q⟩
end L2
namespace Am
open PySem PySem.Spec PyProof.Rows L2
variable [CN]
section
variable {X : Cx} {c : Am.Ctx} {rx : RX} {W : WX} {e : Expr} {me : ME}
theorem s_mkT {n : Nat} {x msg : Str} {y : T} {j : Nat} {p p2 pos : Pos} (hn : n < 6) (q : ExcOwn0 X.K (CN.adr n)) (hm : X.mg x = some (.ref (CN.adr n))) (E : EK X.K)
    (h : msg = sT y := by rfl) (hg : Gl X x := by rfl) (hdb : (x == ("__debug__" : Str)) = false := by decide) :
    PE X (.Call (.Name x p) [.Constant (.str msg) j p2] [] pos) (tE X.K rx c W (.mkT n y)) :=
  PE.weak (pe_mkT PySem.F.excBase_ValueError q hm (E.kp n hn) hg hdb) fun σ H Q hh => by
    obtain ⟨α, Z, F, P, X', I, w⟩ := tE.el hh
    intro a t oe ot na nt ne hc hd hf hc2 hd2
    have w : P (.p (.exs n y)) α := w
    obtain ⟨tk, nn, hd2⟩ := hd2
    have na2 : upd H t (EO t ot) a = none := by rw [upd_ne ne]; exact na
    have nw : New H Z (upd H t (EO t ot)) Z [] := .dat nt
    have nw2 : New (upd H t (EO t ot)) Z (upd (upd H t (EO t ot)) a (EO a oe)) Z [] := .dat na2
    have st := (nw F I.g).1
    have g2 := (nw F I.g).2
    rw [List.append_nil] at st g2
    have I3 := I.next (Fx := []) (by rw [List.append_nil]; exact st) (by rw [List.append_nil]; exact g2) (I.rs.new nw I.g.zt)
    refine I3.res _ w _ _ _ [] nw2 ⟨⟨hn, a, t, oe, ot, tk, nn, rfl, upd_same, by rw [upd_ne (Ne.symm ne)]; exact upd_same, hc, hd, hf, hc2, by rw [← h]; exact hd2⟩, rfl⟩
theorem s_strE {ps pos : Pos} (hu : X.A.units + 190 < cLine) (so : ∀ n, n < 6 → StrOwn X.K (CN.adr n)) (E : EK X.K) (hms : X.mg "str" = none) (ha : PE X e (tO X.K rx c W me)) (h1 : okO me = true := by rfl) (hgs : Gl X "str" := by rfl)
    (na : starEach [e] X.env = (false, eval e X.env) :: starEach [] X.env := by rfl) :
    PE X (.Call (.Name "str" ps) [e] [] pos) (tE X.K rx c W (.strX me)) := PE.weak (pe_strE hu ha hgs hms na) fun σ H Q h => by
  obtain ⟨α, Z, F, P, X', I, w⟩ := tE.el h
  have w : pre me (fun α k => wpE c me α k X') α fun v α1 => Am.fetch me v α1 fun y => (match y with
    | .p (.exs _ s) => P (.p (.str s)) α1
    | _ => False) := w
  refine I.opd h1 w fun v α1 H1 Z1 F1 x Fx w1 I1 s1 g1 o1 => ?_
  obtain ⟨u, G, r1, w2⟩ := o1.fetch I1.rs w1
  cases u with
  | p d =>
    cases d with
    | exs n s =>
      obtain ⟨hn, a, t, oe, ot, tk, nn, ex, h1, h2, c1, c2, c3, c4, c5⟩ := (show TxE H1 n s x from r1.1)
      exact ⟨CN.adr n, a, t, oe, ot, sT s, ex, h1, h2, c1, c3, c4, ⟨tk, nn, c5⟩, of_decide_eq_true (so n hn), E.ex n hn, I1.now w2 rfl⟩
    | _ => exact w2.elim
  | _ => exact (show False from w2).elim
end
end Am

set_option maxHeartbeats 4000000
namespace Am
open PySem PySem.Spec PyProof.Rows L2
variable [CN]
section
variable {X : Cx} {rx : RX} {c : Am.Ctx} {W : WX}
/-- the parts: constants and fields -/
inductive FJ (X : Cx) (rx : RX) (c : Am.Ctx) (W : WX) : List Expr → MEs → List TE → Prop where
  | nil : FJ X rx c W [] .nil []
  | cst {s : Str} {y : T} {j : Nat} {pos : Pos} {es : List Expr} {ms : MEs} {ts : List TE} (h : s = sT y) (hz : y.length ≤ 1000) (r : FJ X rx c W es ms ts) : FJ X rx c W (.Constant (.str s) j pos :: es) (.cons (.cst (.str y)) ms) (tC (.str s) :: ts)
  | fmt {e : Expr} {me : ME} {pos : Pos} {es : List Expr} {ms : MEs} {ts : List TE} (ha : PE X e (tO X.K rx c W me)) (h1 : okO me = true) (r : FJ X rx c W es ms ts) : FJ X rx c W (.FormattedValue e (-1) none pos :: es) (.cons (.fmt me) ms) (tFmt (tO X.K rx c W me) :: ts)
theorem FJ.pj {es : List Expr} {ms : MEs} {ts : List TE} (h : FJ X rx c W es ms ts) : PJ X es ts := by
  induction h with
  | nil => exact .nil
  | cst h hz r ih => exact .cons pe_str ih
  | fmt ha h1 r ih => exact .cons (pe_fmt ha) ih
theorem FJ.run {es : List Expr} {ms : MEs} {ts : List TE} (h : FJ X rx c W es ms ts) : ∀ {σ : L2.St} {H : Hp} {Z : ZP} {F : List Addr} {α : Sl} {P : VP} {X' : XP} {Q : VK} {acc : T} {k : List AV → Sl → Prop}, In X.K rx W σ H Z F α P X' Q → acc.length + 1000 * es.length ≤ 1000000 → wpEs c ms α k X' →
    (∀ vs α1, k vs α1 → onO (strsA vs) fun ss => P (.p (.str (acc ++ ss.flatten))) α1) → tJs ts (sT acc) σ H fun out H1 => Q (.str out) H1 := by
  have step : ∀ {P : VP} {acc y : T} {vs : List AV} {α1 : Sl}, (onO (strsA (.p (.str y) :: vs)) fun ss => P (.p (.str (acc ++ ss.flatten))) α1) → onO (strsA vs) fun ss => P (.p (.str ((acc ++ y) ++ ss.flatten))) α1 := fun {P acc y vs α1} h => by
    have e : strsA (.p (.str y) :: vs) = (match strsA vs with | some q => some (y :: q) | none => none) := rfl
    rw [e] at h
    cases q : strsA vs with
    | none => rw [q] at h; exact h
    | some q' =>
      rw [q] at h
      have h : P (.p (.str (acc ++ (y :: q').flatten))) α1 := h
      show P (.p (.str ((acc ++ y) ++ q'.flatten))) α1
      rw [List.flatten_cons, ← List.append_assoc] at h
      exact h
  have fits : ∀ {acc y : T} {n : Nat}, acc.length + 1000 * (n + 1) ≤ 1000000 → y.length ≤ 1000 → (sT acc ++ sT y).length ≤ sizeLine ∧ (acc ++ y).length + 1000 * n ≤ 1000000 := fun {acc y n} h1 h2 => by
    rw [sT_app, sT_len, List.length_append, sizeLine_eq]
    omega
  induction h with
  | nil =>
    intro σ H Z F α P X' Q acc k I hz w hk
    have h : P (.p (.str (acc ++ []))) α := hk [] α w
    rw [List.append_nil] at h
    exact I.now h rfl
  | @cst s y j pos es ms ts h hz r ih =>
    intro σ H Z F α P X' Q acc k I hz2 w hk
    subst h
    have w : wpEs c ms α (fun vs α2 => k (.p (.str y) :: vs) α2) X' := w
    have f := fits (acc := acc) (y := y) (n := es.length) (by rw [List.length_cons] at hz2; exact hz2) hz
    refine ⟨sT y, rfl, f.1, ?_⟩
    rw [sT_app]
    exact ih I f.2 w fun vs α1 hv => step (hk _ α1 hv)
  | @fmt e me pos es ms ts ha h1 r ih =>
    intro σ H Z F α P X' Q acc k I hz2 w hk
    have w : pre me (fun α k => wpE c me α k X') α fun x α1 => Am.fetch me x α1 fun x => (match x with
      | .p (.int i) => (i.natAbs.log2 < 1920 ∧ (decT i).length ≤ 1000) ∧ wpEs c ms α1 (fun vs α2 => k (.p (.str (decT i)) :: vs) α2) X'
      | .p (.str s) => s.length ≤ 1000 ∧ wpEs c ms α1 (fun vs α2 => k (.p (.str s) :: vs) α2) X'
      | _ => False) := w
    show tFmt (tO X.K rx c W me) σ H _
    refine I.opd h1 w fun v α1 H1 Z1 F1 x Fx w1 I1 s1 g1 o1 => ?_
    obtain ⟨u, G, r1, w2⟩ := o1.fetch I1.rs w1
    cases u with
    | p d =>
      cases d with
      | int i =>
        have f := fits (acc := acc) (y := decT i) (n := es.length) (by rw [List.length_cons] at hz2; exact hz2) w2.1.2
        have ex : x = .int i := r1.1
        refine .inr ⟨i, ex, w2.1.1, sT (decT i), congrArg V.str (dec_str i), f.1, ?_⟩
        rw [sT_app]
        exact ih I1 f.2 w2.2 fun vs α1 hv => step (hk _ α1 hv)
      | str s =>
        have f := fits (acc := acc) (y := s) (n := es.length) (by rw [List.length_cons] at hz2; exact hz2) w2.1
        have ex : x = .str (sT s) := r1.1
        refine .inl ⟨sT s, ex, by rw [sT_len, sizeLine_eq]; have := w2.1; omega, sT s, rfl, f.1, ?_⟩
        rw [sT_app]
        exact ih I1 f.2 w2.2 fun vs α1 hv => step (hk _ α1 hv)
      | _ => exact w2.elim
    | _ => exact (show False from w2).elim
theorem s_fstr {v1 v2 : Expr} {rest : List Expr} {ms : MEs} {ts : List TE} {pos : Pos} (h : FJ X rx c W (v1 :: v2 :: rest) ms ts) (hz : (v1 :: v2 :: rest).length ≤ 1000 := by decide) : PE X (.JoinedStr (v1 :: v2 :: rest) pos) (tE X.K rx c W (.fstr ms)) :=
  PE.weak (pe_joined h.pj) fun σ H Q hh => by
    obtain ⟨α, Z, F, P, X', I, w⟩ := tE.el hh
    have w : wpEs c ms α (fun vs α1 => onO (strsA vs) fun ss => ss.flatten.length ≤ big ∧ P (.p (.str ss.flatten)) α1) X' := w
    refine h.run (acc := []) I (by show 0 + 1000 * _ ≤ 1000000; omega) w fun vs α1 hv => ?_
    obtain ⟨ss, e, _, hp⟩ := onO.el hv
    rw [e]
    exact hp
end
end Am

set_option maxHeartbeats 4000000
namespace PySem
open Sem (wp)
open PySem.W PySem.Calls PyProof.Rows
theorem zip_no_len : typeLookup (.type "zip") "__len__" = pure none := by rw [typeLookup_type, builtinLookup_eq_fast]; kernel_rfl
theorem zip_no_hint : typeLookup (.type "zip") "__length_hint__" = pure none := by rw [typeLookup_type, builtinLookup_eq_fast]; kernel_rfl
/-- the pairs that were taken -/
structure ZilG (xs ys : Array Value) (lo : Addr) (h : Heap) (as : List Addr) : Prop where
  rise : as.Pairwise (· < ·)
  above : ∀ a ∈ as, lo < a
  pairs : ∀ (j : Nat) (a : Addr), as[j]? = some a → ∃ x y, xs[j]? = some x ∧ ys[j]? = some y ∧ h.get? a = some { cls := .type "tuple", data := .seq #[x, y] }
theorem ZilG.there {xs ys : Array Value} {lo : Addr} {h : Heap} {as : List Addr} (g : ZilG xs ys lo h as) {a : Addr} (ha : a ∈ as) : a < h.objs.size := by
  obtain ⟨j, hj⟩ := List.mem_iff_getElem?.mp ha
  obtain ⟨_, _, _, _, e⟩ := g.pairs j a hj
  exact Heap.lt_size e
/-- a zip that is walked into the list S -/
def ZSt (z TI TO i1 i2 l1 l2 S : Addr) (xs ys : Array Value) (i : Nat) (h : Heap) : Prop :=
  IsPair h TI (.ref i1) (.ref i2) ∧ h.IsListIter i1 l1 i ∧ h.IsListIter i2 l2 i ∧ h.IsList l1 xs ∧ h.IsList l2 ys ∧
    ((IsZip h z TI TO .none ∧ ∃ a b, IsPair h TO a b) ∨ ∃ T f oT, IsZipHeld h z TI TO T f ∧ h.get? T = some oT ∧ T ≠ z ∧ T ≠ i1 ∧ T ≠ i2 ∧ T ≠ S)
section
variable {prog : Program} {w : World} {A : Around} {E : Value → Shared → Prop} {s : Shared} {z TI TO i1 i2 l1 l2 S : Addr} {xs ys : Array Value}
theorem ZSt.typeIs {i : Nat} (st : ZSt z TI TO i1 i2 l1 l2 S xs ys i s.heap) : s.TypeIs (.ref z) "zip" := by
  obtain ⟨_, _, _, _, _, hz⟩ := st
  rcases hz with ⟨hz, _⟩ | ⟨T, f, oT, hz, _⟩
  · exact ⟨_, hz, rfl⟩
  · exact ⟨_, hz, rfl⟩
theorem ZSt.up {i : Nat} {h h' : Heap} (st : ZSt z TI TO i1 i2 l1 l2 S xs ys i h) (lt : z < S ∧ TI < S ∧ TO < S ∧ i1 < S ∧ i2 < S ∧ l1 < S ∧ l2 < S) (hk : ∀ b o, b ≠ S → h.get? b = some o → h'.get? b = some o) : ZSt z TI TO i1 i2 l1 l2 S xs ys i h' := by
  obtain ⟨hTI, h1, h2, hl1, hl2, hz⟩ := st
  obtain ⟨q1, q2, q3, q4, q5, q6, q7⟩ := lt
  refine ⟨hk _ _ (Nat.ne_of_lt q2) hTI, h1.at fun o e => hk _ o (Nat.ne_of_lt q4) e, h2.at fun o e => hk _ o (Nat.ne_of_lt q5) e, hl1.at fun o e => hk _ o (Nat.ne_of_lt q6) e, hl2.at fun o e => hk _ o (Nat.ne_of_lt q7) e, ?_⟩
  rcases hz with ⟨hz, a, b, hTO⟩ | ⟨T, f, oT, hz, hT, r1, r2, r3, r4⟩
  · exact .inl ⟨hk _ _ (Nat.ne_of_lt q1) hz, a, b, hk _ _ (Nat.ne_of_lt q3) hTO⟩
  · exact .inr ⟨T, f, oT, hk _ _ (Nat.ne_of_lt q1) hz, hk _ _ r4 hT, r1, r2, r3, r4⟩
theorem zl_item {i : Nat} {Q : Option Value → Shared → Prop} (D : ZipApart z TI TO i1 i2 l1 l2) (st : ZSt z TI TO i1 i2 l1 l2 S xs ys i s.heap) (hS : S < s.heap.objs.size) (hi : i < min xs.size ys.size)
    (hQ : ∀ h' x y, xs[i]? = some x → ys[i]? = some y → ZSt z TI TO i1 i2 l1 l2 S xs ys (i + 1) h' → h'.get? s.heap.objs.size = some { cls := .type "tuple", data := .seq #[x, y] } → h'.objs.size = s.heap.objs.size + 1 →
      (∀ b o, b ≠ z → b ≠ TO → b ≠ i1 → b ≠ i2 → s.heap.get? b = some o → h'.get? b = some o) → Q (some (.ref s.heap.objs.size)) { s with heap := h' }) :
    wpAny (model prog w) A (pyNext (.ref z)) Q E s := by
  obtain ⟨hTI, h1, h2, hl1, hl2, hz⟩ := st
  have hix : i < xs.size := Nat.lt_of_lt_of_le hi (Nat.min_le_left ..)
  have hiy : i < ys.size := Nat.lt_of_lt_of_le hi (Nat.min_le_right ..)
  have ex := Array.getElem?_eq_getElem hix
  have ey := Array.getElem?_eq_getElem hiy
  have lt : ∀ {c o}, s.heap.get? c = some o → s.heap.objs.size ≠ c := fun e => Nat.ne_of_gt (Heap.lt_size e)
  have n1 : s.heap.objs.size ≠ i1 := let ⟨_, e, _⟩ := h1; lt e
  have n2 : s.heap.objs.size ≠ i2 := let ⟨_, e, _⟩ := h2; lt e
  rcases hz with ⟨hz, a, b, hTO⟩ | ⟨T, f, oT, hz, hT, r1, r2, r3, r4⟩
  · refine wpAny_pyNext_zip_item D hz hTI hTO h1 h2 hl1 hl2 ex ey fun h' a1 a2 a3 a4 a5 a6 hk => ?_
    exact hQ h' _ _ ex ey ⟨hk _ _ D.TIz D.TITO D.TIi1 D.TIi2 hTI, a3, a4, hl1.at fun o e => hk _ o D.l1z D.l1TO D.l1i1 D.l1i2 e, hl2.at fun o e => hk _ o D.l2z D.l2TO D.l2i1 D.l2i2 e,
        .inr ⟨s.heap.objs.size, false, _, a1, a5, lt hz, n1, n2, Nat.ne_of_gt hS⟩⟩ a5 a6 hk
  · refine wpAny_pyNext_zip_item_held D hz hT hTI h1 h2 hl1 hl2 ex ey fun h' a1 a3 a4 a5 a6 hk => ?_
    exact hQ h' _ _ ex ey ⟨hk _ _ D.TIz D.TIi1 D.TIi2 hTI, a3, a4, hl1.at fun o e => hk _ o D.l1z D.l1i1 D.l1i2 e, hl2.at fun o e => hk _ o D.l2z D.l2i1 D.l2i2 e,
        .inr ⟨T, true, oT, a1, hk _ _ r1 r2 r3 hT, r1, r2, r3, r4⟩⟩ a5 a6 fun c o c1 _ c3 c4 e => hk c o c1 c3 c4 e
theorem zl_done {Q : Option Value → Shared → Prop} (hh : A.handled = none) (D : ZipApart z TI TO i1 i2 l1 l2) (st : ZSt z TI TO i1 i2 l1 l2 S xs ys (min xs.size ys.size) s.heap)
    (hQ : ∀ h', (∀ b o, b ≠ z → b ≠ TO → b ≠ i1 → b ≠ i2 → s.heap.get? b = some o → h'.get? b = some o) → Q none { s with heap := h' }) : wpAny (model prog w) A (pyNext (.ref z)) Q E s := by
  obtain ⟨hTI, h1, h2, hl1, hl2, hz⟩ := st
  have hend : xs[min xs.size ys.size]? = none ∨ ys[min xs.size ys.size]? = none := by
    rcases Nat.le_total xs.size ys.size with h | h
    · exact .inl (Array.getElem?_eq_none (by rw [Nat.min_eq_left h]; exact Nat.le_refl _))
    · exact .inr (Array.getElem?_eq_none (by rw [Nat.min_eq_right h]; exact Nat.le_refl _))
  rcases hz with ⟨hz, a, b, hTO⟩ | ⟨T, f, oT, hz, hT, r1, r2, r3, r4⟩
  · exact wpAny_pyNext_zip_end hh D hz hTI hTO h1 h2 hl1 hl2 hend fun h' hk => hQ h' hk
  · exact wpAny_pyNext_zip_end_held hh D hz hT hTI h1 h2 hl1 hl2 hend fun h' hk => hQ h' fun c o c1 _ c3 c4 e => hk c o c1 c3 c4 e
end
section
variable {prog : Program} {w : World} {A : Around} {s : Shared} {R : Result → Shared → Prop} {z TI TO i1 i2 l1 l2 S : Addr} {xs ys : Array Value}
theorem zl_loop (hh : A.handled = none) (D : ZipApart z TI TO i1 i2 l1 l2) (lt : z < S ∧ TI < S ∧ TO < S ∧ i1 < S ∧ i2 < S ∧ l1 < S ∧ l2 < S) (hn : min xs.size ys.size ≤ sizeLine) (res : Value) {h₁ : Heap}
    (hR : ∀ h' tk acc c as, (∀ b o, b ≠ S → b ≠ z → b ≠ TO → b ≠ i1 → b ≠ i2 → h₁.get? b = some o → h'.get? b = some o) → h'.get? S = some { cls := .type "list", dict := none, data := .seq acc c, slots := #[] } → as.length = min xs.size ys.size → ZilG xs ys S h' as →
      acc.toList = as.map Value.ref → R (.ok (.ret res)) { s with heap := h', toks := tk }) :
    ∀ (k i : Nat) (h : Heap) (tk c : Nat) (acc : Array Value) (as : List Addr), min xs.size ys.size - i = k → i ≤ min xs.size ys.size → ZSt z TI TO i1 i2 l1 l2 S xs ys i h → (∀ b o, b ≠ S → b ≠ z → b ≠ TO → b ≠ i1 → b ≠ i2 → h₁.get? b = some o → h.get? b = some o) →
      h.get? S = some { cls := .type "list", dict := none, data := .seq acc c, slots := #[] } → acc.toList = as.map Value.ref → as.length = i → ZilG xs ys S h as →
      codeAny (model prog w) A (.builtin "list.extend.loop" ⟨[.ref S, .ref z, res], []⟩) R { s with heap := h, toks := tk } := by
  obtain ⟨q1, q2, q3, q4, q5, q6, q7⟩ := id lt
  intro k
  induction k with
  | zero =>
    intro i h tk c acc as hk hi hst hkeep hS hacc hal hG
    have hin : i = min xs.size ys.size := by omega
    subst hin
    refine codeAny_builtin PySem.F.entry_extend_loop ?_
    rw [Around.under_plainId PySem.F.plain_extend_loop _]
    show wpAny _ A.in1 (pyNext (.ref z) >>= _) _ _ _
    refine wpAny_bind (zl_done (s := { s with heap := h, toks := tk }) (A := A.in1) hh D hst fun h' he => ?_)
    refine wpAny_pure (hR h' tk acc c as (fun b o a1 a2 a3 a4 a5 e => he b o a2 a3 a4 a5 (hkeep b o a1 a2 a3 a4 a5 e)) (he S _ (Nat.ne_of_gt q1) (Nat.ne_of_gt q3) (Nat.ne_of_gt q4) (Nat.ne_of_gt q5) hS) hal ⟨hG.rise, hG.above, fun j a hj => ?_⟩ hacc)
    obtain ⟨x, y, ex, ey, e3⟩ := hG.pairs j a hj
    have ha := hG.above a (List.mem_of_getElem? hj)
    exact ⟨x, y, ex, ey, he a _ (Nat.ne_of_gt (Nat.lt_trans q1 ha)) (Nat.ne_of_gt (Nat.lt_trans q3 ha)) (Nat.ne_of_gt (Nat.lt_trans q4 ha)) (Nat.ne_of_gt (Nat.lt_trans q5 ha)) e3⟩
  | succ k ih =>
    intro i h tk c acc as hk hi hst hkeep hS hacc hal hG
    have hlt : i < min xs.size ys.size := by omega
    have hsz : acc.size = i := by rw [← Array.length_toList, hacc, List.length_map, hal]
    refine codeAny_builtin PySem.F.entry_extend_loop ?_
    rw [Around.under_plainId PySem.F.plain_extend_loop _]
    show wpAny _ A.in1 (pyNext (.ref z) >>= _) _ _ _
    have hSl : S < h.objs.size := Heap.lt_size hS
    refine wpAny_bind (zl_item (s := { s with heap := h, toks := tk }) D hst hSl hlt fun h' x y ex ey hst' ht hz hkp => ?_)
    dsimp only at ht hz hkp ⊢
    have hS' := hkp S _ (Nat.ne_of_gt q1) (Nat.ne_of_gt q3) (Nat.ne_of_gt q4) (Nat.ne_of_gt q5) hS
    have up : ∀ b o, b ≠ S → h'.get? b = some o → (h'.update S (Obj.mapSeq (·.push (Value.ref h.objs.size)))).get? b = some o := fun b o hb e => (Heap.get?_update_other _ _ (Ne.symm hb)).trans e
    show wpAny _ A.in1 (updateSeq S (·.push (Value.ref h.objs.size)) >>= _) _ _ _
    refine wpAny_bind ?_
    refine wpAny_updateSeq hS' rfl (wpAny_pure ⟨plainId_quiet PySem.F.plain_extend_loop _, ih (i + 1) _ tk _ (acc.push (Value.ref h.objs.size)) (as ++ [h.objs.size]) (by omega) hlt (hst'.up lt up)
      (fun b o a1 a2 a3 a4 a5 e => up b o a1 (hkp b o a2 a3 a4 a5 (hkeep b o a1 a2 a3 a4 a5 e))) (Heap.get?_update_self _ hS' rfl) (by rw [Array.toList_push, hacc, List.map_append]; rfl) (by rw [List.length_append, hal]; rfl) ⟨?_, ?_, ?_⟩⟩) (by rw [hsz]; omega) (by show (acc.push (Value.ref h.objs.size)).size ≤ sizeLine + 1; rw [Array.size_push, hsz]; omega)
    · refine List.pairwise_append.mpr ⟨hG.rise, List.pairwise_singleton _ _, fun a ha b hb => ?_⟩
      rw [List.mem_singleton.mp hb]
      exact hG.there ha
    · intro a ha
      rcases List.mem_append.mp ha with ha | ha
      · exact hG.above a ha
      · rw [List.mem_singleton.mp ha]; exact hSl
    · intro j b hj
      rcases Nat.lt_trichotomy j as.length with h1 | h1 | h1
      · rw [List.getElem?_append_left h1] at hj
        obtain ⟨x', y', ex', ey', e3⟩ := hG.pairs j b hj
        have hb := hG.above b (List.mem_of_getElem? hj)
        exact ⟨x', y', ex', ey', up b _ (Nat.ne_of_gt hb) (hkp b _ (Nat.ne_of_gt (Nat.lt_trans q1 hb)) (Nat.ne_of_gt (Nat.lt_trans q3 hb)) (Nat.ne_of_gt (Nat.lt_trans q4 hb)) (Nat.ne_of_gt (Nat.lt_trans q5 hb)) e3)⟩
      · subst h1
        have hb : h.objs.size = b := by simpa using hj
        subst hb
        subst hal
        exact ⟨x, y, ex, ey, up _ _ (Nat.ne_of_gt hSl) ht⟩
      · have hnone : (as ++ [h.objs.size])[j]? = none := List.getElem?_eq_none (by rw [List.length_append, List.length_singleton]; omega)
        rw [hnone] at hj; cases hj
theorem zl_extend (hh : A.handled = none) (D : ZipApart z TI TO i1 i2 l1 l2) (hz0 : IsZip s.heap z TI TO .none) (st : ZSt z TI TO i1 i2 l1 l2 S xs ys 0 s.heap) (lt : z < S ∧ TI < S ∧ TO < S ∧ i1 < S ∧ i2 < S ∧ l1 < S ∧ l2 < S) (res : Value) (c₀ : Nat) (hS : s.heap.get? S = some { cls := .type "list", data := .seq #[] c₀ })
    (hR : ∀ h' tk acc c as, (∀ b o, b ≠ S → b ≠ z → b ≠ TO → b ≠ i1 → b ≠ i2 → s.heap.get? b = some o → h'.get? b = some o) → h'.get? S = some { cls := .type "list", dict := none, data := .seq acc c, slots := #[] } → as.length = min xs.size ys.size → ZilG xs ys S h' as →
      acc.toList = as.map Value.ref → R (.ok (.ret res)) { s with heap := h', toks := tk }) (hn : min xs.size ys.size ≤ sizeLine) :
    wpAny (model prog w) A.in1 (Builtin.List.listExtendWith (.ref S) (.ref z) res)
      (fun fin s' => match fin with | .done f => R (.ok f) s' | .again c' => c'.quiet = true ∧ codeAny (model prog w) A c' R s') (fun e s' => R (.error e) s') s := by
  have hT := st.typeIs
  unfold Builtin.List.listExtendWith
  refine wpAny_bind (wpAny_typeOf (T := "zip") hT ?_)
  have h1 : Builtin.List.listSameRef (.ref S) (.ref z) = false := by simp [Builtin.List.listSameRef, Nat.ne_of_gt lt.1]
  have h2 : (Value.type "zip" == Value.type "list") = false := by decide
  have h3 : (Value.type "zip" == Value.type "tuple") = false := by decide
  simp only [h1, h2, h3, Bool.or_false, Bool.false_eq_true, if_false]
  refine wpAny_bind (wpAny_pyIter_zip hz0 ?_)
  refine wpAny_bind (wpAny_holding ?_)
  unfold Builtin.List.listLengthHint
  refine wpAny_bind (wpAny_specialOf hT zip_no_len ?_)
  show wpAny _ A.in1 (specialOf (Value.ref z) (Str.ofString "__length_hint__") >>= _) _ _ _
  refine wpAny_bind (wpAny_specialOf hT zip_no_hint ?_)
  refine wpAny_pure ?_
  show wpAny _ A.in1 (rule "list.extend.makes-room" >>= fun _ => Builtin.List.listTouch (.ref S) >>= fun _ =>
    again (.builtin "list.extend.loop" ⟨[.ref S, .ref z, res], []⟩)) _ _ _
  refine wpAny_bind (wpAny_rule ?_)
  refine wpAny_bind ?_
  show wpAny _ A.in1 (updateSeq S (·.push .none) >>= fun _ => updateSeq S (·.pop)) _ _ _
  refine wpAny_bind (wpAny_updateSeq hS rfl ?_)
  have hS₂ := Heap.get?_update_self (Obj.mapSeq (·.push Value.none)) hS rfl
  refine wpAny_updateSeq (hz := by seq_fits) hS₂ rfl ?_
  have hS₃ := Heap.get?_update_self (Obj.mapSeq (·.pop)) hS₂ rfl
  have oth : ∀ b o, b ≠ S → s.heap.get? b = some o → ((s.heap.update S (Obj.mapSeq (·.push Value.none))).update S (Obj.mapSeq (·.pop))).get? b = some o :=
    fun b o hb e => (Heap.get?_update_other _ _ (Ne.symm hb)).trans ((Heap.get?_update_other _ _ (Ne.symm hb)).trans e)
  refine wpAny_pure ⟨plainId_quiet PySem.F.plain_extend_loop _, zl_loop (s := s) (h₁ := s.heap) hh D lt hn res hR _ 0 _ s.toks _ #[] [] rfl (Nat.zero_le _) (st.up lt oth) (fun b o a1 _ _ _ _ e => oth b o a1 e) hS₃ rfl rfl ⟨List.Pairwise.nil, (fun _ ha => nomatch ha), (fun j a hj => by simp at hj)⟩⟩
theorem zl_init (hh : A.handled = none) (D : ZipApart z TI TO i1 i2 l1 l2) (hz0 : IsZip s.heap z TI TO .none) (st : ZSt z TI TO i1 i2 l1 l2 S xs ys 0 s.heap) (lt : z < S ∧ TI < S ∧ TO < S ∧ i1 < S ∧ i2 < S ∧ l1 < S ∧ l2 < S) (hS : s.heap.get? S = some { cls := .type "list", data := .seq #[] })
    (hR : ∀ h' tk acc c as, (∀ b o, b ≠ S → b ≠ z → b ≠ TO → b ≠ i1 → b ≠ i2 → s.heap.get? b = some o → h'.get? b = some o) → h'.get? S = some { cls := .type "list", dict := none, data := .seq acc c, slots := #[] } → as.length = min xs.size ys.size → ZilG xs ys S h' as →
      acc.toList = as.map Value.ref → R (.ok (.ret .none)) { s with heap := h', toks := tk }) (hn : min xs.size ys.size ≤ sizeLine) :
    wpAny (model prog w) A.in1 (Builtin.«list.__init__» ⟨[.ref S, .ref z], []⟩)
      (fun fin s' => match fin with | .done f => R (.ok f) s' | .again c' => c'.quiet = true ∧ codeAny (model prog w) A c' R s') (fun e s' => R (.error e) s') s := by
  show wpAny _ _ (do let old ← Builtin.List.listItems (.ref S); Builtin.List.listUpdate (.ref S) (fun _ => #[]); letGo old.toList.reverse; Builtin.List.listExtendWith (.ref S) (.ref z) .none) _ _ s
  refine wpAny_bind ?_
  unfold Builtin.List.listItems
  refine wpAny_bind (wpAny_seqItems hS rfl (wpAny_pure ?_))
  show wpAny _ _ (updateSeq S (fun _ => #[]) >>= fun _ => letGo (#[] : Array Value).toList.reverse >>= fun _ => Builtin.List.listExtendWith (.ref S) (.ref z) .none) _ _ s
  refine wpAny_bind (wpAny_updateSeq hS rfl ?_)
  have hS₂ := Heap.get?_update_self (Obj.mapSeq (fun _ => (#[] : Array Value))) hS rfl
  have oth : ∀ b o, b ≠ S → s.heap.get? b = some o → (s.heap.update S (Obj.mapSeq (fun _ => (#[] : Array Value)))).get? b = some o :=
    fun b o hb e => (Heap.get?_update_other _ _ (Ne.symm hb)).trans e
  refine wpAny_bind (wpAny_letGo ?_)
  refine zl_extend hh D (oth z _ (Nat.ne_of_lt lt.1) hz0) (st.up lt oth) lt .none _ hS₂ (fun h' tk acc c as hk hS' hl hG hacc => ?_) hn
  exact hR h' tk acc c as (fun b o a1 a2 a3 a4 a5 e => hk b o a1 a2 a3 a4 a5 (oth b o a1 e)) hS' hl hG hacc
end
section
variable {prog : Program} {w : World} {A : Around} {E : Value → Shared → Prop} {s : Shared} {z TI TO i1 i2 l1 l2 : Addr} {xs ys : Array Value}
/-- list(z), z a zip of two lists that was not walked yet -/
theorem zl_call {Q : Value → Shared → Prop} (hh : A.handled = none) (D : ZipApart z TI TO i1 i2 l1 l2) (hz0 : IsZip s.heap z TI TO .none) (st : ∀ S, s.heap.objs.size ≤ S → ZSt z TI TO i1 i2 l1 l2 S xs ys 0 s.heap) (lt : z < s.heap.objs.size ∧ TI < s.heap.objs.size ∧ TO < s.heap.objs.size ∧ i1 < s.heap.objs.size ∧ i2 < s.heap.objs.size ∧ l1 < s.heap.objs.size ∧ l2 < s.heap.objs.size) (hn : min xs.size ys.size ≤ sizeLine)
    (hQ : ∀ h' tk acc c as, (∀ b o, b ≠ z → b ≠ TO → b ≠ i1 → b ≠ i2 → s.heap.get? b = some o → h'.get? b = some o) → h'.get? s.heap.objs.size = some { cls := .type "list", dict := none, data := .seq acc c, slots := #[] } → as.length = min xs.size ys.size → ZilG xs ys s.heap.objs.size h' as →
      acc.toList = as.map Value.ref → Q (.ref s.heap.objs.size) { s with heap := h', toks := tk }) :
    wpAny (model prog w) A (call (.type "list") [.ref z]) Q E s := by
  refine callType_codes (Q₁ := fun obj s₁ => obj = .ref s.heap.objs.size ∧ s₁ = { s with heap := s.heap.push { cls := .type "list", data := .seq #[] } }) PySem.F.called_list (PySem.F.typeCall_list_1 _) PySem.F.entry_list_init
    (code_list_new _ ⟨rfl, rfl⟩) fun obj s₁ h₁ => ?_
  obtain ⟨rfl, rfl⟩ := h₁
  have hS : (s.heap.push { cls := .type "list", data := .seq #[] }).get? s.heap.objs.size = some { cls := .type "list", data := .seq #[] } := Heap.get?_push_size _ rfl
  refine ⟨⟨_, hS, rfl⟩, PySem.F.args_list_init_2 _ _, zl_init (A := A.in1) hh D (Heap.get?_push_of_some _ hz0) ((st _ (Nat.le_refl _)).up lt fun b o _ e => Heap.get?_push_of_some _ e) lt hS (fun h' tk acc c as hk hS' hl hG hacc => ?_) hn⟩
  exact ⟨rfl, hQ h' tk acc c as (fun b o a2 a3 a4 a5 e => hk b o (Nat.ne_of_lt (Heap.lt_size e)) a2 a3 a4 a5 (Heap.get?_push_of_some _ e)) hS' hl hG hacc⟩
end
end PySem
namespace L2
open PySem PySem.Spec PyProof.Rows
/-- tuples are laid -/
def layT : Hp → List (Addr × Obj × List V) → Hp
  | H, [] => H
  | H, p :: r => layT (upd H p.1 (.frz p.2.1 (.tup p.2.2))) r
theorem layT_ext : ∀ {l : List (Addr × Obj × List V)} {H : Hp} {b : Addr}, b ∉ l.map (·.1) → layT H l b = H b
  | [], _, _, _ => rfl
  | p :: r, H, b, h => by
    have h1 : b ≠ p.1 := fun z => h (by rw [z]; simp)
    have h2 : b ∉ r.map (·.1) := fun z => h (List.mem_cons_of_mem _ z)
    show layT (upd H p.1 _) r b = H b
    rw [layT_ext h2, upd_ne h1]
theorem layT_at : ∀ {l : List (Addr × Obj × List V)} {H : Hp} {p : Addr × Obj × List V}, (l.map (·.1)).Nodup → p ∈ l → layT H l p.1 = some (.frz p.2.1 (.tup p.2.2))
  | [], _, _, _, h => absurd h (by simp)
  | q :: r, H, p, nd, h => by
    obtain ⟨n1, n2⟩ := List.nodup_cons.mp (show (q.1 :: r.map (·.1)).Nodup from nd)
    show layT (upd H q.1 _) r p.1 = _
    rcases List.mem_cons.mp h with rfl | h
    · rw [layT_ext n1, upd_same]
    · exact layT_at n2 h
theorem Un.layN {fs ex : List Addr} {H H' : Hp} {h h' : Heap} (k : ∀ b u, h.get? b = some u → h'.get? b = some u) (ext : ∀ b o, H b = some o → H' b = some o) (new : ∀ b, H b = none → (∃ o, H' b = some o) → h.get? b = none) : Un fs ex H H' h h' where
  keep := fun b u q _ _ _ => k b u q
  slot := fun b u q _ _ _ => ⟨u.slots, k b u q⟩
  free := fun b u q n _ => by
    cases e : H' b with
    | none => rfl
    | some o => rw [new b n ⟨o, e⟩] at q; cases q
  there := fun b u q _ => ⟨u, k b u q⟩
  tups := fun b xs q => ext b _ q
  frzs := fun b u xs q => ext b _ q
  tbls := fun b ps q => ⟨#[], by rw [ext b _ q]; simp⟩
theorem HOk.layN {P : Program} {w : World} {H H' : Hp} {h h' : Heap} (x : HOk P w H h) (k : ∀ b u, h.get? b = some u → h'.get? b = some u) (ext : ∀ b o, H b = some o → H' b = some o) (new : ∀ b u, H b = none → H' b = some u → ObjOk P w H' h' b u) : HOk P w H' h' := fun b u e => by
  cases q : H b with
  | none => exact new b u q e
  | some o =>
    have e : some o = some u := (ext b o q).symm.trans e
    obtain rfl : o = u := Option.some.inj e
    exact (x b o q).stay (fun c v _ q => k c v q) (fun c q => ext c _ q) fun c xs q => ext c _ q
theorem mkL {h : Heap} : ∀ {as : List Addr} {its its2 : List Value} {xs ys : List V}, as.length = min its.length its2.length → Vals xs its → Vals ys its2 → (∀ (j : Nat) (a : Addr), as[j]? = some a → ∃ x y, its[j]? = some x ∧ its2[j]? = some y ∧ h.get? a = some { cls := .type "tuple", data := .seq #[x, y] }) →
    ∃ l : List (Addr × Obj × List V), l.map (·.1) = as ∧ l.map (·.2.2) = List.zipWith (fun x y => [x, y]) xs ys ∧ ∀ p ∈ l, ∃ x y, p.2.1 = { cls := .type "tuple", data := .seq #[x, y] } ∧ h.get? p.1 = some p.2.1 ∧ Vals p.2.2 [x, y]
  | [], its, its2, xs, ys, hl, r1, r2, _ => by
    refine ⟨[], rfl, ?_, fun p hp => by cases hp⟩
    cases r1 with
    | nil => rfl
    | cons a b =>
      cases r2 with
      | nil => rfl
      | cons c d => simp at hl
  | a :: as, its, its2, xs, ys, hl, r1, r2, hp => by
    cases r1 with
    | nil => simp at hl
    | @cons u x xs its a1 b1 =>
      cases r2 with
      | nil => simp at hl
      | @cons v y ys its2 a2 b2 =>
        obtain ⟨l, e1, e2, e3⟩ := mkL (h := h) (as := as) (its := its) (its2 := its2) (xs := xs) (ys := ys) (by simp only [List.length_cons] at hl; omega) b1 b2 fun j c hj => hp (j + 1) c hj
        obtain ⟨x', y', ex, ey, hg⟩ := hp 0 a rfl
        cases ex
        cases ey
        refine ⟨(a, ({ cls := .type "tuple", data := .seq #[x, y] } : Obj), [u, v]) :: l, by rw [List.map_cons, e1], by rw [List.map_cons, e2]; rfl, fun p hp => ?_⟩
        rcases List.mem_cons.mp hp with rfl | hp
        · exact ⟨x, y, rfl, hg, .cons a1 (.cons a2 .nil)⟩
        · exact e3 p hp
theorem refsV : ∀ l : List (Addr × Obj × List V), Vals (l.map fun p => V.ref p.1) ((l.map (·.1)).map Value.ref)
  | [] => .nil
  | _ :: r => .cons rfl (refsV r)
theorem pe_lzip {X : Cx} {e e2 : Expr} {ta : TA} {p p2 pos pos2 : Pos} (hc : X.calm = true) (hgl : Gl X "list") (hml : X.mg "list" = none) (hg : Gl X "zip") (hm : X.mg "zip" = none) (ha : PA X [e, e2] ta)
    (hs : starEach [e, e2] X.env = (false, eval e X.env) :: starEach [e2] X.env := by rfl) (hpl : (backTo pos2 (starEach [e2] X.env)).any (·.1) = false := by rfl)
    (na : starEach [.Call (.Name "zip" p2) [e, e2] [] pos2] X.env = (false, eval (.Call (.Name "zip" p2) [e, e2] [] pos2) X.env) :: starEach [] X.env := by rfl) :
    PE X (.Call (.Name "list" p) [.Call (.Name "zip" p2) [e, e2] [] pos2] [] pos) (fun σ H Q => ta σ H fun vs H1 => ∃ a b xs ys, vs = [.ref a, .ref b] ∧ SqL X.K H1 a xs ∧ SqL X.K H1 b ys ∧
      ∀ (S : Addr) (l : List (Addr × Obj × List V)), l.map (·.2.2) = List.zipWith (fun x y => [x, y]) xs ys → (l.map (·.1)).Nodup → (∀ p ∈ l, H1 p.1 = none ∧ p.1 ≠ S ∧ p.2.1.dict = none ∧ p.2.1.cls = .type "tuple") → H1 S = none → Q (.ref S) (upd (layT H1 l) S (.lst (l.map fun p => .ref p.1)))) := by
  refine ⟨fun pins s σ H Q I h => ?_⟩
  refine Call_ (ld_blt I hgl hml boot_list (PyProof.Rows.callWith_type1 (args_cons ?_ na) na))
  refine Call_ (ld_blt I hg hm PyProof.Rows.boot_zip (PyProof.Rows.callWith_type1 (thn (ha.run pos2 pins s σ H _ I h) fun us s1 ⟨vs, H1, I1, r1, q1⟩ => ?_) hs hpl))
  obtain ⟨a, b, xs, ys, ex, hqx, hqy, q⟩ := q1
  subst ex
  cases r1 with
  | cons r rr =>
    cases rr with
    | cons r' rr =>
      cases rr
      cases r
      cases r'
      obtain ⟨its, rv, p1, zx⟩ := I1.list hqx
      obtain ⟨its2, rv2, p2, _⟩ := I1.list hqy
      have la : a < s1.heap.objs.size := p1.lt
      have lb : b < s1.heap.objs.size := p2.lt
      refine call_zip_2 p1.isList p2.isList fun h' hz hTI hTO h1 h2 hsz hk => ?_
      have I2 : Inv X pins σ H1 { s1 with heap := h' } := I1.kept (t' := s1.toks) hk
      refine args_nil ?_
      have z2 : its.toArray.size = its.length := by simp
      have z3 : its2.toArray.size = its2.length := by simp
      have zl := rv.length
      refine PySem.zl_call (s := { s1 with heap := h' }) (I2.ok.hd hc) (PySem.W.ktu_apart s1.heap.objs.size a b la lb) hz (fun S _ => ⟨hTI, h1, h2, p1.isList.at fun o e => hk _ o e, p2.isList.at fun o e => hk _ o e, .inl ⟨hz, _, _, hTO⟩⟩)
        ⟨by show s1.heap.objs.size + 4 < h'.objs.size; omega, by show s1.heap.objs.size + 2 < h'.objs.size; omega, by show s1.heap.objs.size + 3 < h'.objs.size; omega, by show s1.heap.objs.size < h'.objs.size; omega, by show s1.heap.objs.size + 1 < h'.objs.size; omega, Nat.lt_of_lt_of_le la (show s1.heap.objs.size ≤ h'.objs.size by omega), Nat.lt_of_lt_of_le lb (show s1.heap.objs.size ≤ h'.objs.size by omega)⟩ (by rw [z2, z3]; omega) fun hh tk acc c as hk2 hS hl hG hacc => ?_
      have hs5 : s1.heap.objs.size ≤ h'.objs.size := by omega
      rw [z2, z3] at hl
      obtain ⟨l, e1, e2, e3⟩ := mkL (h := hh) hl rv rv2 fun j c hj => by
        obtain ⟨x, y, ex, ey, hg⟩ := hG.pairs j c hj
        exact ⟨x, y, by rw [← ex]; simp, by rw [← ey]; simp, hg⟩
      have mem : ∀ {c : Addr}, c ∈ l.map (·.1) → h'.objs.size < c := fun {c} hc => hG.above c (by rw [← e1]; exact hc)
      have nd : (l.map (·.1)).Nodup := by
        rw [e1]
        exact hG.rise.imp fun {a b} h => Nat.ne_of_lt h
      have fr : ∀ {c : Addr}, h'.objs.size ≤ c → H1 c = none := fun {c} hc => I1.hok.fresh (Nat.le_trans hs5 hc)
      have gn : ∀ {c : Addr}, h'.objs.size ≤ c → s1.heap.get? c = none := fun {c} hc => Heap.get?_none_of_le (Nat.le_trans hs5 hc)
      have kk : ∀ b u, s1.heap.get? b = some u → hh.get? b = some u := fun b u q => by
        have hb := Heap.lt_size q
        exact hk2 b u (Nat.ne_of_lt (Nat.lt_of_lt_of_le hb (Nat.le_add_right _ _))) (Nat.ne_of_lt (Nat.lt_of_lt_of_le hb (Nat.le_add_right _ _))) (Nat.ne_of_lt hb) (Nat.ne_of_lt (Nat.lt_of_lt_of_le hb (Nat.le_add_right _ _))) (hk b u q)
      obtain ⟨S, eS⟩ : ∃ S : Addr, S = h'.objs.size := ⟨_, rfl⟩
      have ext : ∀ b o, H1 b = some o → upd (layT H1 l) S (.lst (l.map fun p => V.ref p.1)) b = some o := fun b o q => by
        have hb : b ≠ S := fun z => by rw [z, fr (by rw [eS]; exact Nat.le_refl _)] at q; cases q
        rw [upd_ne hb, layT_ext fun z => by rw [fr (Nat.le_of_lt (mem z))] at q; cases q]
        exact q
      have cas : ∀ b u, H1 b = none → upd (layT H1 l) S (.lst (l.map fun p => V.ref p.1)) b = some u → (b = S ∧ u = .lst (l.map fun p => V.ref p.1)) ∨ ∃ p ∈ l, b = p.1 ∧ u = .frz p.2.1 (.tup p.2.2) := fun b u n q => by
        by_cases hb : b = S
        · rw [hb, upd_same] at q
          cases q
          exact .inl ⟨hb, rfl⟩
        · rw [upd_ne hb] at q
          by_cases hm : b ∈ l.map (·.1)
          · obtain ⟨p, hp, rfl⟩ := List.mem_map.mp hm
            rw [layT_at nd hp] at q
            cases q
            exact .inr ⟨p, hp, rfl, rfl⟩
          · rw [layT_ext hm, n] at q
            cases q
      have J := I1.un (h' := hh) (t' := tk) (Un.layN kk ext fun b n ⟨o, q⟩ => by
        rcases cas b o n q with ⟨rfl, _⟩ | ⟨p, hp, rfl, _⟩
        · exact gn (by rw [eS]; exact Nat.le_refl _)
        · exact gn (Nat.le_of_lt (mem (List.mem_map.mpr ⟨p, hp, rfl⟩)))) (I1.hok.layN kk ext fun b u n q => by
        rcases cas b u n q with ⟨rfl, rfl⟩ | ⟨p, hp, rfl, rfl⟩
        · refine ⟨by rw [List.length_map, ← List.length_map (f := (·.1)), e1, hl]; omega, as.map Value.ref, c, ?_, ?_⟩
          · rw [← e1]
            exact refsV l
          · rw [← hacc, eS]
            simpa using hS
        · obtain ⟨x, y, eo, hg, rl⟩ := e3 p hp
          refine ⟨hg, by rw [rl.length, sizeLine_eq]; exact Nat.le_of_ble_eq_true rfl, [x, y], rl, ?_⟩
          rw [eo] at hg
          exact ⟨_, hg, rfl, _, rfl⟩)
      refine ⟨.ref S, _, J, by rw [eS]; rfl, q S l e2 nd (fun p hp => ?_) (fr (by rw [eS]; exact Nat.le_refl _))⟩
      obtain ⟨x, y, eo, hg, rl⟩ := e3 p hp
      have m := mem (List.mem_map.mpr ⟨p, hp, rfl⟩)
      exact ⟨fr (Nat.le_of_lt m), by rw [eS]; exact Nat.ne_of_gt m, by rw [eo], by rw [eo]⟩
end L2
namespace Am
open PySem PySem.Spec PyProof.Rows L2
variable [CN]
theorem New.seq {H H1 H2 : Hp} {Z Z1 Z2 : ZP} {Fr : List Addr} (a : New H Z H1 Z1 []) (b : New H1 Z1 H2 Z2 Fr) : New H Z H2 Z2 Fr := fun F g => by
  have x := a F g
  rw [List.append_nil] at x
  have y := b F x.2
  exact ⟨x.1.trans y.1, y.2⟩
theorem New.layT : ∀ {l : List (Addr × Obj × List V)} {H : Hp} {Z : ZP}, (l.map (·.1)).Nodup → (∀ p ∈ l, H p.1 = none) → New H Z (L2.layT H l) Z []
  | [], _, _, _, _ => .refl
  | p :: r, H, Z, nd, h => by
    obtain ⟨n1, n2⟩ := List.nodup_cons.mp (show (p.1 :: r.map (·.1)).Nodup from nd)
    exact New.seq (.dat (h p List.mem_cons_self)) (New.layT n2 fun q hq => by rw [upd_ne (fun z => n1 (by rw [← z]; exact List.mem_map.mpr ⟨q, hq, rfl⟩))]; exact h q (List.mem_cons_of_mem _ hq))
theorem rds_zip {K : PySem.W.Frag} {H : Hp} {Z : ZP} : ∀ {ds es : List D} {xs ys : List V} {l : List (Addr × Obj × List V)}, RDs K H Z ds xs → RDs K H Z es ys → l.map (·.2.2) = List.zipWith (fun x y => [x, y]) xs ys → (∀ p ∈ l, TF H p.1 p.2.2) → RDs K H Z (zipD ds es) (l.map fun p => V.ref p.1)
  | [], es, xs, ys, l, r1, r2, e, h => by
    have r1 : xs = [] := r1
    subst r1
    have : l = [] := List.map_eq_nil_iff.mp e
    subst this
    rfl
  | d :: ds, [], xs, ys, l, r1, r2, e, h => by
    have r2 : ys = [] := r2
    subst r2
    rw [List.zipWith_nil_right] at e
    have : l = [] := List.map_eq_nil_iff.mp e
    subst this
    rfl
  | d :: ds, e' :: es, xs, ys, l, r1, r2, e, h => by
    obtain ⟨x, q, rfl, a1, a2⟩ := r1
    obtain ⟨y, q2, rfl, b1, b2⟩ := r2
    cases l with
    | nil => cases e
    | cons p l =>
      have e : p.2.2 :: l.map (·.2.2) = [x, y] :: List.zipWith (fun x y => [x, y]) q q2 := e
      injection e with e1 e2
      have t := h p List.mem_cons_self
      rw [e1] at t
      exact ⟨.ref p.1, _, rfl, ⟨p.1, [x, y], rfl, t, x, [y], rfl, a1, y, [], rfl, b1, rfl⟩, rds_zip a2 b2 e2 fun p' hp' => h p' (List.mem_cons_of_mem _ hp')⟩
section
variable {X : Cx} {rx : RX} {c : Am.Ctx} {W : WX} {a b : Expr} {ms : MEs} {p p2 pos pos2 : Pos}
theorem s_lzip (hc : X.calm = true) (hml : X.mg "list" = none) (hm : X.mg "zip" = none) (ha : PA X [a, b] (tEl X.K rx c W ms)) (hgl : Gl X "list" := by rfl) (hg : Gl X "zip" := by rfl)
    (hs : starEach [a, b] X.env = (false, eval a X.env) :: starEach [b] X.env := by rfl) (hpl : (backTo pos2 (starEach [b] X.env)).any (·.1) = false := by rfl)
    (na : starEach [.Call (.Name "zip" p2) [a, b] [] pos2] X.env = (false, eval (.Call (.Name "zip" p2) [a, b] [] pos2) X.env) :: starEach [] X.env := by rfl) :
    PE X (.Call (.Name "list" p) [.Call (.Name "zip" p2) [a, b] [] pos2] [] pos) (tE X.K rx c W (.bi .lzip ms)) := PE.weak (pe_lzip hc hgl hml hg hm ha hs hpl na) fun σ H Q h => by
  obtain ⟨α, Z, F, P, X', I, w⟩ := tE.el h
  refine I.opds w fun vs α1 H1 Z1 F1 xs Fx w1 I1 s1 g1 o1 => ?_
  obtain ⟨us, r, w2⟩ := o1.read I1.rs w1
  match us, w2, r with
  | [u, v], w2, r =>
    obtain ⟨x, y, G1, G2, rfl, ra, rb⟩ := r.two'
    obtain ⟨ds, e1, w2⟩ := onO.el w2
    obtain ⟨es, e2, w2⟩ := onO.el w2
    have w2 : P (.ol (zipD ds es)) α1 := w2
    obtain ⟨a1, vs1, rfl, q1, t1⟩ := ra.list e1
    obtain ⟨a2, vs2, rfl, q2, t2⟩ := rb.list e2
    refine ⟨a1, a2, vs1, vs2, rfl, q1, q2, fun S l el nd hp hS => ?_⟩
    have nL : New H1 Z1 (L2.layT H1 l) Z1 [] := New.layT nd fun p m => (hp p m).1
    have zt := I1.g.zt
    have hS2 : L2.layT H1 l S = none := by
      rw [layT_ext fun m => by obtain ⟨p, m, e⟩ := List.mem_map.mp m; exact (hp p m).2.1 e]
      exact hS
    have res : ResP X.K (L2.layT H1 l) Z1 (fun v => P v α1) Q := fun v hv H' Z' x Fr n r => I1.res v hv H' Z' x Fr (New.seq nL n) r
    have kp := nL.keep zt
    have zt2 : Zt (L2.layT H1 l) Z1 := fun c zc => by
      by_cases m : c ∈ l.map (·.1)
      · obtain ⟨p', m', e⟩ := List.mem_map.mp m
        rw [← e, layT_at nd m']
        exact fun z => nomatch z
      · rw [layT_ext m]
        exact zt c zc
    exact res.lst zt2 w2 (rds_zip (RDs.keep kp ds t1) (RDs.keep kp es t2) el fun p m => ⟨p.2.1, layT_at nd m, (hp p m).2.2.1, (hp p m).2.2.2⟩) hS2
end
end Am

set_option maxHeartbeats 4000000
namespace Am
open PySem PySem.Spec PyProof.Rows L2
variable [CN]
section
variable {X : Cx} {rx : RX} {c : Am.Ctx} {W : WX} {me t : ME} {it : MI} {ifs : MEs}
theorem s_setLcZ {elt tg iter : Expr} {es : List Expr} {scope : Scope} {own : List (Str × Nat)} {sg sg' : List Bool} {i : Nat} {y : Str} {py spos pos : Pos} (hc : X.calm = true) (hN : X.N.Nodup) (hi : PI X tg iter (tI X.K rx c W t it)) (ok : BlkOk X.N X.env.scope scope own)
    (hg : ∀ (s : Shared) (H : Hp) (C : Addr) (cl : List (Str × Addr)) (fp : List Addr), PG (X.blk s H scope (compEnvC scope cl C X.env) fp) tg (tG X.K sg t)) (ht : ∀ (s : Shared) (H : Hp) (C : Addr) (cl : List (Str × Addr)) (fp : List Addr), PTs (X.blk s H scope (compEnvC scope cl C X.env) fp) es (tTs X.K rx c ifs))
    (he : ∀ (s : Shared) (H : Hp) (C : Addr) (cl : List (Str × Addr)) (fp : List Addr), PE (X.blk s H scope (compEnvC scope cl C X.env) fp) elt (tE X.K rx c W0 me)) (hy : X.N[i]? = some y := by rfl) (hyg : getL sg' i = some true := by rfl) (hyl : X.env.scope.names.lookup y = some .local := by rfl)
    (hsw : swapsWith (.ListComp elt [⟨tg, iter, es, 0⟩] scope pos) (some (.Name y py)) spos.line X.env = pure true := by rfl)
    (hsg : sgOk sg (own.map (·.2)) = true := by rfl) (hifs : okIfs ifs = true := by rfl)
    (hs : ∀ x, foldedSetIterable iter X.env x = pure x := by intro _; rfl) : PS X (.Assign [.Name y py] (.ListComp elt [⟨tg, iter, es, 0⟩] scope pos) spos) (tS X.K rx c W sg' (.asg (.pl (.v i)) (.frz (.lc me t it ifs (own.map (·.2)))))) :=
  PS.weak (ps_setLc hc hN hy hyl hsw hi ok hg ht he hs) fun D σ H ⟨α, Z, F, N, X', I, w⟩ => by
  have h : tE X.K rx c W (.lc me t it ifs (own.map (·.2))) σ H (fun x H1 => gName i x σ H1 D.nx) := by
    have w : wpE c (.lc me t it ifs (own.map (·.2))) α (fun v α1 => onO (deepD v) fun d => N.nx (setS α1 i (some (.p d)))) X' := w
    refine I.val w fun v α1 H1 Z1 F1 x Fx w1 I1 s1 g1 r1 => ?_
    obtain ⟨d, ed, w2⟩ := onO.el w1
    have I2 := I.frz s1 g1 I1.rs
    obtain ⟨F2, I3⟩ := I2.put (by rw [List.append_nil]; exact .refl) (by rw [List.append_nil]; exact I2.g) I2.rs (show RA X.K H1 (fun a => Z1 a ∨ a ∈ Fx) (.p d) x [] from ⟨r1.deep ed, rfl⟩) hyg
    exact I3.nxt w2
  exact lc_run hifs (sgOk.el hsg) h
end
end Am

set_option maxHeartbeats 4000000
namespace Am
open PySem PySem.Spec PyProof.Rows L2
variable [CN]
theorem getS_ne : ∀ {α : Sl} {i j : Nat} {v : Option AV}, i ≠ j → getS (setS α i v) j = getS α j
  | [], _, _, _, _ => rfl
  | _ :: _, 0, 0, _, h => absurd rfl h
  | _ :: _, 0, _ + 1, _, _ => rfl
  | _ :: _, _ + 1, 0, _, _ => rfl
  | _ :: r, i + 1, j + 1, v, h => getS_ne (α := r) (i := i) (j := j) fun e => h (congrArg (· + 1) e)
theorem setS_none : ∀ {α : Sl} {i : Nat}, getS α i = none → setS α i none = α
  | [], _, _ => rfl
  | x :: _, 0, h => by
    have h : x = none := by cases x <;> first | rfl | exact h
    rw [h]
  | x :: r, i + 1, h => congrArg (x :: ·) (setS_none (α := r) (i := i) h)
theorem getS_same : ∀ {α : Sl} {i : Nat} {v : Option AV}, i < α.length → getS (setS α i v) i = v
  | [], _, _, h => absurd h (Nat.not_lt_zero _)
  | _ :: _, 0, v, _ => by cases v <;> rfl
  | _ :: r, i + 1, _, h => getS_same (α := r) (i := i) (Nat.lt_of_succ_lt_succ h)
def tTup2 (t : TA) : TE := fun σ H Q => t σ H fun xs H1 => xs.length ≤ sizeLine ∧ QT Q H1 xs
def rTupL (K : PySem.W.Frag) : List V → Hp → VK → Prop := fun xs H Q => ∃ a ws, xs = [.ref a] ∧ SqL K H a ws ∧ QT Q H ws
theorem cr_tupL {X : Cx} : CallR X (.type "tuple") (rTupL X.K) := fun pins s σ H xs us Q I r ⟨a, ws, ex, hq, q⟩ => by
  subst ex
  obtain ⟨u, rfl, rx⟩ := vals1 r
  cases rx
  obtain ⟨its, r', pl, hz⟩ := I.list hq
  have hlen := r'.length
  refine call_tuple_list pl.isList (fun h' kp => ?_) (by simp only [List.size_toArray] <;> omega)
  have I1 : Inv X pins σ H { s with heap := h' } := I.kept (t' := s.toks) kp
  exact ⟨.ref h'.objs.size, _, Inv.tnew I1 r' hz, rfl, q _ _ (I1.hok.fresh (Nat.le_refl _)) rfl rfl⟩
section
variable (K : PySem.W.Frag) (r l o sg nm tr : Nat)
def tFb1 : TS := tAsg (tLst (tCons (tTup2 (tCons (tC (.str (sT []))) (tCons (tLst tNil) tNil))) tNil)) (gName o)
def tFbA : TS := tDrop (tBM K "list" rAppend (tVar o) (tCons (tTup2 (tCons (tBM K "list" rPopAt (tVar l) (tCons (tC (.int 0)) tNil)) (tCons (tLst tNil) tNil))) tNil))
def tFbB : TS := tAsg (tBM0 K "list" rPop (tVar o)) (gTup K 2 (gCons (gName nm) (gCons (gName tr) gNil)))
def tFbC : TS := tDrop (tBM K "list" rAppend (tOp (rIxT K) (tOp (rIxL K) (tVar o) (tUn (rU fun i => .int (-i)) (tC (.int 1)))) (tC (.int 1))) (tCons (tTup2 (tCons (tVar nm) (tCons (tCB (rTupL K) (tCons (tVar tr) tNil)) tNil))) tNil))
def tFbT : TT := tTest (tOp rEq (tVar sg) (tC (.str (sT [40]))))
def tFb2 : TS := tFor (iStr (tVar r)) (gName sg) (tIfS (tFbT sg) (tFbA K l o) (tSeq (tFbB K o nm tr) (tFbC K o nm tr)))
def tFb3 : TS := tRet (tCB (rTupL K) (tCons (tOp (rIxT K) (tOp (rIxL K) (tVar o) (tC (.int 0))) (tC (.int 1))) tNil))
end
/-- one that is open: its tuple at p.1, its list at p.2 -/
def Lv (K : PySem.W.Frag) (H : Hp) (Z : ZP) (e : D × List D) (p : Addr × Addr) : Prop := ∃ x vs, TF H p.1 [x, .ref p.2] ∧ RD K H Z e.1 x ∧ H p.2 = some (.lst vs) ∧ RDs K H Z e.2 vs
def StkOk (K : PySem.W.Frag) (H : Hp) (Z : ZP) : List (D × List D) → List (Addr × Addr) → Prop
  | [], q => q = []
  | e :: st, q => ∃ p q', q = p :: q' ∧ Lv K H Z e p ∧ StkOk K H Z st q'
section
variable {K : PySem.W.Frag} {H H' H1 : Hp} {Z Z' Z1 : ZP}
theorem Lv.keep (k : Keep H Z H' Z') {e : D × List D} {p : Addr × Addr} (h : Lv K H Z e p) (hl : H' p.2 = H p.2) : Lv K H' Z' e p := by
  obtain ⟨x, vs, h1, h2, h3, h4⟩ := h
  exact ⟨x, vs, k.tf h1, RD.keep k _ h2, by rw [hl]; exact h3, RDs.keep k _ h4⟩
theorem StkOk.keep (k : Keep H Z H' Z') : ∀ {st : List (D × List D)} {q : List (Addr × Addr)}, StkOk K H Z st q → (∀ p ∈ q, H' p.2 = H p.2) → StkOk K H' Z' st q
  | [], _, h, _ => h
  | _ :: _, _, ⟨p, q', e, h1, h2⟩, hl => by
    subst e
    exact ⟨p, q', rfl, h1.keep k (hl p List.mem_cons_self), h2.keep k fun p hp => hl p (List.mem_cons_of_mem _ hp)⟩
/-- where forest_by stands -/
structure FbI (K : PySem.W.Frag) (sgn : List Bool) (σ0 : L2.St) (H0 : Hp) (Z0 : ZP) (F0 : List Addr) (α0 : Sl) (l o : Nat) (xs : List D) (st : List (D × List D)) (q : List (Addr × Addr)) (O : Addr) (σ : L2.St) (H : Hp) (Z : ZP) (F : List Addr) : Prop where
  rs : RS K H Z (setS α0 l (some (.ol xs))) σ F
  g : G3 H Z (F ++ (O :: q.map (·.2)))
  s : Step H0 Z0 F0 H Z (F ++ (O :: q.map (·.2)))
  sm : Same sgn σ0 σ
  so : σ[o]? = some (some (.ref O))
  ho : H O = some (.lst (q.map fun p => V.ref p.1).reverse)
  sk : StkOk K H Z st q
variable {sgn : List Bool} {σ0 σ : L2.St} {H0 : Hp} {Z0 : ZP} {F0 F : List Addr} {α0 : Sl} {l o : Nat} {xs : List D} {st : List (D × List D)} {q : List (Addr × Addr)} {O : Addr}
theorem FbI.store (I : FbI K sgn σ0 H0 Z0 F0 α0 l o xs st q O σ H Z F) {i : Nat} {y : Option V} (hl : l ≠ i) (hn : getS α0 i = none) (ho : o ≠ i) (hg : getL sgn i = some true) : ∃ F', FbI K sgn σ0 H0 Z0 F0 α0 l o xs st q O (σ.set i y) H Z F' := by
  obtain ⟨F2, rest, rs2, pp⟩ := I.rs.putN (i := i) (y := y)
  rw [setS_none (by rw [getS_ne hl]; exact hn)] at rs2
  have p2 : (F ++ (O :: q.map (·.2))).Perm ((F2 ++ (O :: q.map (·.2))) ++ rest) := (List.Perm.append_right _ pp).trans (by
    rw [List.append_assoc, List.append_assoc]
    exact List.Perm.append_left F2 List.perm_append_comm)
  exact ⟨F2, rs2, (I.g.perm p2).left, (I.s.permR p2).lessR fun _ h => List.mem_append_left _ h, I.sm.trans (.set hg), by rw [List.getElem?_set_ne (fun e => ho e.symm)]; exact I.so, I.ho, I.sk⟩
/-- something new, that is no one's -/
theorem FbI.newT (I : FbI K sgn σ0 H0 Z0 F0 α0 l o xs st q O σ H Z F) {p : Addr} {u : HO} (hp : H p = none) : FbI K sgn σ0 H0 Z0 F0 α0 l o xs st q O σ (upd H p u) Z F := by
  have n : New H Z (upd H p u) Z [] := .dat hp
  obtain ⟨s1, g1⟩ := n _ I.g
  rw [List.append_nil] at s1 g1
  have ne : ∀ {a : Addr} {ob : HO}, H a = some ob → upd H p u a = H a := fun {a ob} h => upd_ne (ne_of_none h hp)
  refine ⟨?_, g1, I.s.trans s1, I.sm, I.so, by rw [ne I.ho]; exact I.ho, I.sk.keep (s1.keep I.g) fun b hb => ?_⟩
  · have := I.rs.new n I.g.zt
    exact this
  · have hm : b.2 ∈ F ++ (O :: q.map (·.2)) := List.mem_append_right _ (List.mem_cons_of_mem _ (List.mem_map.mpr ⟨b, hb, rfl⟩))
    have := I.g.ow _ hm
    cases e : H b.2 with
    | none => exact absurd e this.some'
    | some ob => rw [ne e, e]
/-- the next name is taken -/
theorem FbI.pop {x : D} (I : FbI K sgn σ0 H0 Z0 F0 α0 l o (x :: xs) st q O σ H Z F) (hl : l < α0.length) : ∃ ad y ws, σ[l]? = some (some (.ref ad)) ∧ H ad = some (.lst (y :: ws)) ∧
    ∃ F', FbI K sgn σ0 H0 Z0 F0 α0 l o xs st q O σ (upd H ad (.lst ws)) Z F' ∧ RD K (upd H ad (.lst ws)) Z x y := by
  obtain ⟨v, Fi, Fr, h1, ⟨ad, vs, rfl, rfl, ha, rr⟩, p, _, gone⟩ := I.rs.get (getS_same hl)
  obtain ⟨y, ws, rfl, ry, rws⟩ := rr
  have gl : G3 H Z [ad] := (I.g.left.perm p).left
  obtain ⟨F1, s1, g1, rs1⟩ := I.rs.write (w := .ol xs) I.g.left h1 p gone (o := .lst ws) trivial ⟨ad, ws, rfl, rfl, upd_same, rws.wr gl⟩
  rw [setS_setS] at rs1
  have sB := s1.beside I.g
  have gB := I.g.beside s1 g1
  have ne : ∀ {b : Addr}, b ∈ O :: q.map (·.2) → upd H ad (.lst ws) b = H b := fun {b} hb => upd_ne fun e => I.g.dis b hb (by rw [e]; exact p.mem_iff.mpr (by simp))
  refine ⟨ad, y, ws, h1, ha, F1, ⟨rs1, gB, I.s.trans sB, I.sm, I.so, by rw [ne List.mem_cons_self]; exact I.ho, I.sk.keep (sB.keep I.g) fun b hb => ne (List.mem_cons_of_mem _ (List.mem_map.mpr ⟨b, hb, rfl⟩))⟩, RD.keep (sB.keep I.g) _ ry⟩
/-- one more is open -/
theorem FbI.push {x : D} {y : V} {a t : Addr} {ob : Obj} (I : FbI K sgn σ0 H0 Z0 F0 α0 l o xs st q O σ H Z F) (ry : RD K H Z x y) (ha : H a = none) (ht : upd H a (.lst []) t = none) (hd : ob.dict = none) (hc : ob.cls = .type "tuple") :
    FbI K sgn σ0 H0 Z0 F0 α0 l o xs ((x, []) :: st) ((t, a) :: q) O σ (upd (upd (upd H a (.lst [])) t (.frz ob (.tup [y, .ref a]))) O (.lst ((q.map fun p => V.ref p.1).reverse ++ [.ref t]))) Z F := by
  have n1 : New H Z (upd H a (.lst [])) Z [a] := .own ha trivial
  obtain ⟨s1, g1⟩ := n1 _ I.g
  have n2 : New (upd H a (.lst [])) Z (upd (upd H a (.lst [])) t (.frz ob (.tup [y, .ref a]))) Z [] := .dat ht
  obtain ⟨s2, g2⟩ := n2 _ g1
  rw [List.append_nil] at s2 g2
  have mO : O ∈ F ++ (O :: q.map (·.2)) ++ [a] := by simp
  have s3 : Step (upd (upd H a (.lst [])) t (.frz ob (.tup [y, .ref a]))) Z (F ++ (O :: q.map (·.2)) ++ [a]) (upd (upd (upd H a (.lst [])) t (.frz ob (.tup [y, .ref a]))) O (.lst ((q.map fun p => V.ref p.1).reverse ++ [.ref t]))) Z (F ++ (O :: q.map (·.2)) ++ [a]) := .wr mO
  have g3 := g2.wr (p := O) (o := .lst ((q.map fun p => V.ref p.1).reverse ++ [.ref t])) trivial
  have pp : (F ++ (O :: q.map (·.2)) ++ [a]).Perm (F ++ (O :: ((t, a) :: q).map (·.2))) := by
    rw [List.append_assoc]
    refine List.Perm.append_left F ?_
    show (O :: (q.map (·.2) ++ [a])).Perm (O :: a :: q.map (·.2))
    exact List.Perm.cons _ List.perm_append_comm
  have nOa : O ≠ a := ne_of_none I.ho ha
  have hO2 : upd H a (.lst []) O = H O := upd_ne nOa
  have nOt : O ≠ t := ne_of_none (hO2.trans I.ho) ht
  have nat : a ≠ t := ne_of_none (show upd H a (.lst []) a = some (.lst []) from upd_same) ht
  have s123 := (s1.trans s2).trans s3
  have rsO : RS K (upd (upd (upd H a (.lst [])) t (.frz ob (.tup [y, .ref a]))) O (.lst ((q.map fun p => V.ref p.1).reverse ++ [.ref t]))) Z (setS α0 l (some (.ol xs))) σ F := by
    have r2 := (I.rs.new n1 I.g.zt).new n2 g1.zt
    have gO : G3 (upd (upd H a (.lst [])) t (.frz ob (.tup [y, .ref a]))) Z [O] := ⟨by simp, fun b hb => g2.nz b (by rw [List.mem_singleton.mp hb]; exact mO), fun b hb => g2.ow b (by rw [List.mem_singleton.mp hb]; exact mO), g2.zt⟩
    refine r2.frame gO (.wr (by simp)) fun b hb hm => ?_
    rw [List.mem_singleton.mp hm] at hb
    exact I.g.dis O List.mem_cons_self hb
  refine ⟨rsO, g3.perm pp, (I.s.trans s123).permR pp, I.sm, I.so, ?_, ⟨(t, a), q, rfl, ⟨y, [], ⟨ob, ?_, hd, hc⟩, RD.keep (s123.keep I.g) _ ry, ?_, rfl⟩, I.sk.keep (s123.keep I.g) fun b hb => ?_⟩⟩
  · rw [upd_same, List.map_cons, List.reverse_cons]
  · show upd _ O _ t = _
    rw [upd_ne (fun e => nOt e.symm), upd_same]
  · show upd _ O _ a = _
    rw [upd_ne (fun e => nOa e.symm), upd_ne nat, upd_same]
  · have hm : b.2 ∈ F ++ (O :: q.map (·.2)) := List.mem_append_right _ (List.mem_cons_of_mem _ (List.mem_map.mpr ⟨b, hb, rfl⟩))
    have nO : b.2 ≠ O := fun e => by
      have nd := I.g.right.nd
      exact (List.nodup_cons.mp nd).1 (by rw [← e]; exact List.mem_map.mpr ⟨b, hb, rfl⟩)
    have hs := (I.g.ow _ hm).some'
    cases e : H b.2 with
    | none => exact absurd e hs
    | some u =>
      have na : b.2 ≠ a := ne_of_none e ha
      have e2 : upd H a (.lst []) b.2 = some u := by rw [upd_ne na]; exact e
      rw [upd_ne nO, upd_ne (ne_of_none e2 ht), e2]
/-- the last one is shut -/
theorem FbI.popO {e : D × List D} {p : Addr × Addr} (I : FbI K sgn σ0 H0 Z0 F0 α0 l o xs (e :: st) (p :: q) O σ H Z F) :
    FbI K sgn σ0 H0 Z0 F0 α0 l o xs st q O σ (upd H O (.lst (q.map fun p => V.ref p.1).reverse)) Z F ∧ Lv K (upd H O (.lst (q.map fun p => V.ref p.1).reverse)) Z e p := by
  have mO : O ∈ F ++ (O :: (p :: q).map (·.2)) := by simp
  have s1 : Step H Z (F ++ (O :: (p :: q).map (·.2))) (upd H O (.lst (q.map fun p => V.ref p.1).reverse)) Z (F ++ (O :: (p :: q).map (·.2))) := .wr mO
  have g1 := I.g.wr (p := O) (o := .lst (q.map fun p => V.ref p.1).reverse) trivial
  have pp : (F ++ (O :: (p :: q).map (·.2))).Perm ((F ++ (O :: q.map (·.2))) ++ [p.2]) := by
    rw [List.append_assoc]
    refine List.Perm.append_left F ?_
    show (O :: p.2 :: q.map (·.2)).Perm (O :: (q.map (·.2) ++ [p.2]))
    exact List.Perm.cons _ (List.perm_append_comm (l₁ := [p.2]))
  have gO : G3 H Z [O] := ⟨by simp, fun b hb => I.g.nz b (by rw [List.mem_singleton.mp hb]; exact mO), fun b hb => I.g.ow b (by rw [List.mem_singleton.mp hb]; exact mO), I.g.zt⟩
  have ne : ∀ {b : Addr}, b ∈ (p :: q).map (·.2) → upd H O (.lst (q.map fun p => V.ref p.1).reverse) b = H b := fun {b} hb => upd_ne fun e => (List.nodup_cons.mp I.g.right.nd).1 (by rw [← e]; exact hb)
  obtain ⟨p0, q0, ee, lv, sk⟩ := I.sk
  injection ee with e1 e2
  subst e1 e2
  refine ⟨⟨I.rs.frame gO (.wr (by simp)) fun b hb hm => I.g.dis O List.mem_cons_self (by rw [← List.mem_singleton.mp hm]; exact hb), (g1.perm pp).left, ((I.s.trans s1).permR pp).lessR fun _ h => List.mem_append_left _ h, I.sm, I.so, upd_same, sk.keep (s1.keep I.g) fun b hb => ne (List.mem_map.mpr ⟨b, List.mem_cons_of_mem _ hb, rfl⟩)⟩, lv.keep (s1.keep I.g) (ne (by simp))⟩
/-- .. and put to the one about it -/
theorem FbI.app {m d : D} {us : List D} {p : Addr × Addr} {v : V} (I : FbI K sgn σ0 H0 Z0 F0 α0 l o xs ((m, us) :: st) (p :: q) O σ H Z F) (rv : RD K H Z d v) :
    ∃ ws, H p.2 = some (.lst ws) ∧ RDs K H Z us ws ∧ FbI K sgn σ0 H0 Z0 F0 α0 l o xs ((m, us ++ [d]) :: st) (p :: q) O σ (upd H p.2 (.lst (ws ++ [v]))) Z F := by
  obtain ⟨p0, q0, ee, ⟨x, ws, tf, rx, hp, ru⟩, sk⟩ := I.sk
  injection ee with e1 e2
  subst e1 e2
  have mp : p.2 ∈ F ++ (O :: (p :: q).map (·.2)) := by simp
  have s1 : Step H Z (F ++ (O :: (p :: q).map (·.2))) (upd H p.2 (.lst (ws ++ [v]))) Z (F ++ (O :: (p :: q).map (·.2))) := .wr mp
  have g1 := I.g.wr (p := p.2) (o := .lst (ws ++ [v])) trivial
  have gP : G3 H Z [p.2] := ⟨by simp, fun b hb => I.g.nz b (by rw [List.mem_singleton.mp hb]; exact mp), fun b hb => I.g.ow b (by rw [List.mem_singleton.mp hb]; exact mp), I.g.zt⟩
  have nd := I.g.right.nd
  have nO : O ≠ p.2 := fun e => (List.nodup_cons.mp nd).1 (by rw [e]; simp)
  have nq : ∀ b ∈ q, b.2 ≠ p.2 := fun b hb e => (List.nodup_cons.mp (List.nodup_cons.mp nd).2).1 (by show p.2 ∈ _; rw [← e]; exact List.mem_map.mpr ⟨b, hb, rfl⟩)
  have kp := s1.keep I.g
  refine ⟨ws, hp, ru, I.rs.frame gP (.wr (by simp)) fun b hb hm => I.g.dis p.2 (by simp) (by rw [← List.mem_singleton.mp hm]; exact hb), g1, I.s.trans s1, I.sm, I.so, by rw [upd_ne nO]; exact I.ho, ⟨p, q, rfl, ⟨x, ws ++ [v], kp.tf tf, RD.keep kp _ rx, upd_same, (RDs.keep kp _ ru).app (show RDs K (upd H p.2 (.lst (ws ++ [v]))) Z [d] [v] from ⟨v, [], rfl, RD.keep kp _ rv, rfl⟩)⟩, sk.keep kp fun b hb => upd_ne (nq b hb)⟩⟩
theorem setS_self : ∀ {α : Sl} {i : Nat} {v : AV}, getS α i = some v → setS α i (some v) = α
  | [], _, _, _ => rfl
  | x :: _, 0, v, h => by
    have h : x = some v := by cases x <;> first | exact h | cases h
    rw [h]
  | x :: r, i + 1, v, h => congrArg (x :: ·) (setS_self (α := r) (i := i) h)
/-- a reading of opened.append((left.pop(0), [])) -/
theorem FbI.tA {x : D} {D' : L2.Ends} (I : FbI K sgn σ0 H0 Z0 F0 α0 l o (x :: xs) st q O σ H Z F) (hl : l < α0.length) (hq : q.length < sizeLine)
    (cont : ∀ H' F' p, FbI K sgn σ0 H0 Z0 F0 α0 l o xs ((x, []) :: st) (p :: q) O σ H' Z F' → D'.nx σ H') : tFbA K l o D' σ H := by
  obtain ⟨ad, y, ws, h1, h2, F1, I1, ry⟩ := I.pop hl
  refine ⟨.ref O, I.so, .inl ⟨rfl, _, .of I.ho⟩, .ref ad, h1, .inl ⟨rfl, _, .of h2⟩, ad, _, 0, 0, y, rfl, rfl, h2, by decide, by decide, ?_, rfl, ?_⟩
  · exact (ixN_seq (n := (y :: ws).length) (i := 0) (j := 0) (by unfold ixN; rw [if_pos (Int.le_refl 0), if_pos (by simp only [List.length_cons]; omega)]; rfl)).1
  rw [show (y :: ws).eraseIdx 0 = ws from rfl]
  refine ⟨Nat.zero_le _, fun a ha => ⟨Nat.le_of_ble_eq_true rfl, fun t ob ht hd hc => ?_⟩⟩
  have ha2 : upd (upd H ad (.lst ws)) a (.lst []) O = some (.lst (q.map fun p => V.ref p.1).reverse) := by
    rw [upd_ne (ne_of_none I1.ho ha)]
    exact I1.ho
  have I2 := I1.push ry ha ht hd hc
  refine ⟨O, (q.map fun p => V.ref p.1).reverse, .ref t, rfl, rfl, ?_, by rw [List.length_reverse, List.length_map]; exact hq, cont _ _ (t, a) I2⟩
  rw [upd_ne (ne_of_none ha2 ht)]
  exact ha2
theorem FbI.len (I : FbI K sgn σ0 H0 Z0 F0 α0 l o xs st q O σ H Z F) : st.length = q.length := by
  have : ∀ {st : List (D × List D)} {q : List (Addr × Addr)}, StkOk K H Z st q → st.length = q.length := by
    intro st
    induction st with
    | nil => intro q h; cases h; rfl
    | cons e st ih =>
      intro q h
      obtain ⟨p, q', rfl, _, h⟩ := h
      exact congrArg (· + 1) (ih h)
  exact this I.sk
/-- name, trees = opened.pop(); opened[-1][1].append((name, tuple(trees))) -/
theorem FbI.tBC {n m : D} {ts us : List D} {nm tr : Nat} {D' : L2.Ends} (I : FbI K sgn σ0 H0 Z0 F0 α0 l o xs ((n, ts) :: (m, us) :: st) q O σ H Z F) (hu : us.length < sizeLine) (ht : ts.length ≤ sizeLine)
    (ln : l ≠ nm) (lt : l ≠ tr) (on : o ≠ nm) (ot : o ≠ tr) (nt : nm ≠ tr) (gn : getS α0 nm = none) (gt : getS α0 tr = none) (sn : getL sgn nm = some true) (st' : getL sgn tr = some true) (bn : nm < α0.length) (bt : tr < α0.length)
    (cont : ∀ σ' H' F' q', FbI K sgn σ0 H0 Z0 F0 α0 l o xs ((m, us ++ [.tup [n, .tup ts]]) :: st) q' O σ' H' Z F' → D'.nx σ' H') : tSeq (tFbB K o nm tr) (tFbC K o nm tr) D' σ H := by
  obtain ⟨p, q1, rfl, lv0, p2, q2, rfl, _⟩ := I.sk
  have hoO := I.ho
  rw [List.map_cons, List.reverse_cons] at hoO
  obtain ⟨I1, x, vs, tf, rx, hp, rv⟩ := I.popO
  have slen : ∀ {α : Sl} {σ : L2.St} {F : List Addr} {H : Hp}, RS K H Z α σ F → α.length = σ.length := fun h => h.len
  refine ⟨.ref O, I.so, .inl ⟨rfl, _, .of I.ho⟩, O, _, .ref p.1, rfl, rfl, I.ho, ?_, ?_⟩
  · rw [List.map_cons, List.reverse_cons, List.length_append, List.length_singleton, Nat.add_sub_cancel, List.getElem?_append_right (Nat.le_refl _), Nat.sub_self]
    rfl
  rw [show ((p :: p2 :: q2).map fun p => V.ref p.1).reverse.dropLast = ((p2 :: q2).map fun p => V.ref p.1).reverse by rw [List.map_cons, List.reverse_cons, List.dropLast_concat]]
  refine ⟨p.1, _, rfl, tf.sq, rfl, _, _, rfl, _, _, rfl, rfl, ?_⟩
  obtain ⟨F2, I2⟩ := I1.store (i := nm) (y := some x) ln gn on sn
  obtain ⟨F3, I3⟩ := I2.store (i := tr) (y := some (.ref p.2)) lt gt ot st'
  have b0 : α0.length = σ.length := by
    have := I.rs.len
    rwa [setS_len] at this
  have h1 : ((σ.set nm (some x)).set tr (some (.ref p.2)))[nm]? = some (some x) := by
    rw [List.getElem?_set_ne (fun e => nt e.symm), List.getElem?_set_self (by omega)]
  have h2 : ((σ.set nm (some x)).set tr (some (.ref p.2)))[tr]? = some (some (.ref p.2)) := by
    rw [List.getElem?_set_self (by rw [List.length_set]; omega)]
  obtain ⟨p', q', ee, ⟨x2, vs2, tf2, rx2, hp2, rv2⟩, _⟩ := I1.sk
  injection ee with e1 e2
  subst e1 e2
  refine ⟨.ref O, I3.so, 1, rfl, O, _, -1, .ref p2.1, rfl, rfl, .of I3.ho, ?_, p2.1, _, 1, .ref p2.2, rfl, rfl, tf2.sq, rfl, .inl ⟨rfl, _, .of hp2⟩, x, h1, .ref p.2, h2, p.2, vs, rfl, .of hp, fun t3 ob3 ht3 hd3 hc3 => ⟨Nat.le_of_ble_eq_true rfl, fun t4 ob4 ht4 hd4 hc4 => ?_⟩⟩
  · rw [List.map_cons, List.reverse_cons]
    exact atI_last _ _
  have I4 := I3.newT (u := .frz ob3 (.tup vs)) ht3
  have I5 := I4.newT (u := .frz ob4 (.tup [x, .ref t3])) ht4
  have k3 : Keep (upd H O (.lst ((p2 :: q2).map fun p => V.ref p.1).reverse)) Z (upd (upd H O (.lst ((p2 :: q2).map fun p => V.ref p.1).reverse)) t3 (.frz ob3 (.tup vs))) Z := (New.dat (Z := Z) ht3).keep I3.g.zt
  have k4 : Keep (upd (upd H O (.lst ((p2 :: q2).map fun p => V.ref p.1).reverse)) t3 (.frz ob3 (.tup vs))) Z (upd (upd (upd H O (.lst ((p2 :: q2).map fun p => V.ref p.1).reverse)) t3 (.frz ob3 (.tup vs))) t4 (.frz ob4 (.tup [x, .ref t3]))) Z := (New.dat (Z := Z) ht4).keep I4.g.zt
  have kk := k3.trans k4
  have tf3 : TF (upd (upd H O (.lst ((p2 :: q2).map fun p => V.ref p.1).reverse)) t3 (.frz ob3 (.tup vs))) t3 vs := ⟨ob3, upd_same, hd3, hc3⟩
  have rT : RD K (upd (upd (upd H O (.lst ((p2 :: q2).map fun p => V.ref p.1).reverse)) t3 (.frz ob3 (.tup vs))) t4 (.frz ob4 (.tup [x, .ref t3]))) Z (.tup [n, .tup ts]) (.ref t4) :=
    ⟨t4, [x, .ref t3], rfl, ⟨ob4, upd_same, hd4, hc4⟩, x, [.ref t3], rfl, RD.keep kk _ rx, .ref t3, [], rfl, ⟨t3, vs, rfl, k4.tf tf3, RDs.keep kk _ rv⟩, rfl⟩
  obtain ⟨ws, hw, rw', I6⟩ := I5.app rT
  exact ⟨p2.2, ws, .ref t4, rfl, rfl, hw, by rw [← rw'.len]; exact hu, cont _ _ _ _ I6⟩
/-- opened = [("", [])] -/
theorem FbI.start {D' : L2.Ends} (rs : RS K H Z α0 σ F) (g : G3 H Z F) (e : getS α0 l = some (.ol xs)) (lo : l ≠ o) (bo : o < α0.length) (no : getS α0 o = none) (so : getL sgn o = some true)
    (cont : ∀ σ' H' F' q O, FbI K sgn σ H Z F α0 l o xs [(.str [], [])] q O σ' H' Z F' → D'.nx σ' H') : tFb1 o D' σ H := by
  refine ⟨Nat.zero_le _, fun a ha => ⟨Nat.le_of_ble_eq_true rfl, fun t ob ht hd hc => ⟨Nat.le_of_ble_eq_true rfl, fun O hO => ?_⟩⟩⟩
  have n1 : New H Z (upd H a (.lst [])) Z [a] := .own ha trivial
  obtain ⟨s1, g1⟩ := n1 _ g
  have n2 : New (upd H a (.lst [])) Z (upd (upd H a (.lst [])) t (.frz ob (.tup [.str (sT []), .ref a]))) Z [] := .dat ht
  obtain ⟨s2, g2⟩ := n2 _ g1
  rw [List.append_nil] at s2 g2
  have n3 : New (upd (upd H a (.lst [])) t (.frz ob (.tup [.str (sT []), .ref a]))) Z (upd (upd (upd H a (.lst [])) t (.frz ob (.tup [.str (sT []), .ref a]))) O (.lst [.ref t])) Z [O] := .own hO trivial
  obtain ⟨s3, g3⟩ := n3 _ g2
  obtain ⟨F2, rest, rs2, pp⟩ := (((rs.new n1 g.zt).new n2 g1.zt).new n3 g2.zt).putN (i := o) (y := some (.ref O))
  rw [setS_none no, ← setS_self e] at rs2
  have b0 : α0.length = σ.length := rs.len
  have p2 : (F ++ [a] ++ [O]).Perm ((F2 ++ (O :: [(t, a)].map (·.2))) ++ rest) := by
    have q1 : (F ++ [a] ++ [O]).Perm ((F2 ++ rest) ++ (O :: [a])) := by
      rw [List.append_assoc]
      exact (List.Perm.append_left F (show ([a] ++ [O]).Perm (O :: [a]) from List.Perm.swap O a [])).trans (List.Perm.append_right _ pp)
    refine q1.trans ?_
    rw [List.append_assoc, List.append_assoc]
    exact List.Perm.append_left F2 List.perm_append_comm
  have nt : t ≠ O := ne_of_none (show (upd (upd H a (.lst [])) t (.frz ob (.tup [.str (sT []), .ref a]))) t = some _ from upd_same) hO
  have na : a ≠ t := ne_of_none (show upd H a (.lst []) a = some _ from upd_same) ht
  have na2 : a ≠ O := ne_of_none (show (upd (upd H a (.lst [])) t (.frz ob (.tup [.str (sT []), .ref a]))) a = some (.lst []) by rw [upd_ne na, upd_same]) hO
  refine cont _ _ F2 [(t, a)] O ⟨rs2, (g3.perm p2).left, (((s1.trans s2).trans s3).permR p2).lessR fun _ h => List.mem_append_left _ h, .set so, List.getElem?_set_self (by omega), upd_same, ⟨(t, a), [], rfl, ⟨.str (sT []), [], ⟨ob, ?_, hd, hc⟩, rfl, ?_, rfl⟩, rfl⟩⟩
  · show upd _ O _ t = _
    rw [upd_ne nt, upd_same]
  · show upd _ O _ a = _
    rw [upd_ne na2, upd_ne na, upd_same]
/-- the walk of the signs -/
theorem FbI.loop {D' : L2.Ends} {r sg nm tr : Nat} {row : T} {k : D → Prop} {q : List (Addr × Addr)} (I : FbI K sgn σ0 H0 Z0 F0 α0 l o xs [(.str [], [])] q O σ H Z F) (er : getS α0 r = some (.p (.str row))) (lr : l ≠ r) (z : row.length ≤ 1000)
    (w : fbW row xs [(.str [], [])] k)
    (ln : l ≠ nm) (lt : l ≠ tr) (ls : l ≠ sg) (on : o ≠ nm) (ot : o ≠ tr) (os : o ≠ sg) (nt : nm ≠ tr) (gn : getS α0 nm = none) (gt : getS α0 tr = none) (gs : getS α0 sg = none)
    (sn : getL sgn nm = some true) (st' : getL sgn tr = some true) (ss : getL sgn sg = some true) (bl : l < α0.length) (bn : nm < α0.length) (bt : tr < α0.length) (bs : sg < α0.length)
    (cont : ∀ σ' H' F' q xs' n ts, FbI K sgn σ0 H0 Z0 F0 α0 l o xs' [(n, ts)] q O σ' H' Z F' → k (.tup ts) → D'.nx σ' H') : tFb2 K r l o sg nm tr D' σ H := by
  have er1 : getS (setS α0 l (some (.ol xs))) r = some (.p (.str row)) := (getS_ne lr).trans er
  obtain ⟨y, Fi, Fr, h1, ⟨h2, _⟩, _⟩ := I.rs.get er1
  have h2 : y = .str (sT row) := h2
  subst h2
  have hsz : (sT row).cps.size = row.length := by simp [sT]
  have hix : ∀ {i : Nat}, (sT row).cps[i]? = row[i]? := fun {i} => by simp [sT]
  refine ⟨_, h1, sT row, rfl, fun i m σ' H' => m = row.length - i ∧ ∃ xs st q F', FbI K sgn σ0 H0 Z0 F0 α0 l o xs st q O σ' H' Z F' ∧ st.length ≤ i + 1 ∧ (∀ e ∈ st, e.2.length ≤ i) ∧ fbW (row.drop i) xs st k, ⟨_, rfl, xs, _, q, F, I, Nat.le_refl _, fun e he => ?_, w⟩, ?_⟩
  · rw [List.mem_singleton.mp he]
    exact Nat.le_refl _
  rintro i m σ' H' ⟨rfl, xs, st, q, F', I, hst, hts, w⟩
  cases e : row.drop i with
  | nil =>
    rw [e] at w
    have hl : row.length ≤ i := by simpa using e
    refine .inl ⟨by show (sT row).cps.size ≤ i; omega, ?_⟩
    match st, w with
    | [(n, ts)], w => exact cont _ _ F' q xs n ts I w
  | cons c rr =>
    obtain ⟨e1, e2, e3⟩ := In.at1 e
    rw [e] at w
    refine .inr ⟨by show i < (sT row).cps.size; omega, fun σ2 H2 => ∃ m', m' < row.length - i ∧ m' = row.length - (i + 1) ∧ ∃ xs st q F', FbI K sgn σ0 H0 Z0 F0 α0 l o xs st q O σ2 H2 Z F' ∧ st.length ≤ i + 1 + 1 ∧ (∀ e ∈ st, e.2.length ≤ i + 1) ∧ fbW (row.drop (i + 1)) xs st k, fun σ2 H2 ⟨m', a, b, q⟩ => ⟨m', a, b, q⟩, ?_⟩
    rintro x H2 ⟨rfl, c', hc', rfl⟩
    rw [hix, e1] at hc'
    cases hc'
    obtain ⟨F2, I2⟩ := I.store (i := sg) (y := some (.str ⟨#[c]⟩)) ls gs os ss
    have b0 : α0.length = σ'.length := by
      have := I.rs.len
      rwa [setS_len] at this
    have len := I.len
    refine ⟨_, List.getElem?_set_self (by omega), rfl, _, rfl, ?_⟩
    rw [e2]
    by_cases hc : c = 40
    · subst hc
      rw [if_pos (decide_eq_true (show V.str ⟨#[40]⟩ = V.str (sT [40]) from rfl))]
      cases xs with
      | nil => exact absurd w (by unfold fbW; rw [if_pos rfl]; exact id)
      | cons x xs =>
        have w : fbW rr xs ((x, []) :: st) k := by
          unfold fbW at w
          rw [if_pos rfl] at w
          exact w
        refine I2.tA bl (Nat.lt_of_le_of_lt (show q.length ≤ 1001 by omega) (Nat.lt_of_lt_of_le (show 1001 < 1002 by omega) (Nat.le_of_ble_eq_true rfl))) fun H3 F3 p I3 => ⟨_, by omega, rfl, xs, _, _, F3, I3, by simp only [List.length_cons]; omega, fun e he => ?_, w⟩
        rcases List.mem_cons.mp he with rfl | he
        · exact Nat.zero_le _
        · exact Nat.le_succ_of_le (hts e he)
    · have hne : V.str ⟨#[c]⟩ ≠ V.str (sT [40]) := by
        intro h
        injection h with h
        injection h with h
        have h : [c] = [40] := congrArg Array.toList h
        exact hc (List.cons.inj h).1
      rw [decide_eq_false hne]
      show tSeq (tFbB K o nm tr) (tFbC K o nm tr) _ _ _
      unfold fbW at w
      rw [if_neg hc] at w
      rcases st with _ | ⟨⟨n, ts⟩, _ | ⟨⟨m, us⟩, st2⟩⟩
      · exact w.elim
      · exact w.elim
      · have w : fbW rr xs ((m, us ++ [.tup [n, .tup ts]]) :: st2) k := w
        have hu : us.length ≤ i := hts (m, us) (by simp)
        have ht : ts.length ≤ i := hts (n, ts) (by simp)
        refine I2.tBC (Nat.lt_of_le_of_lt (show us.length ≤ 1001 by omega) (Nat.lt_of_lt_of_le (show 1001 < 1002 by omega) (Nat.le_of_ble_eq_true rfl))) (Nat.le_trans (show ts.length ≤ 1001 by omega) (Nat.le_of_ble_eq_true rfl)) ln lt on ot nt gn gt sn st' bn bt fun σ3 H3 F3 q3 I3 => ⟨_, by omega, rfl, xs, _, _, F3, I3, by simp only [List.length_cons] at hst ⊢; omega, fun e he => ?_, w⟩
        rcases List.mem_cons.mp he with rfl | he
        · simp only [List.length_append, List.length_singleton]
          omega
        · exact Nat.le_succ_of_le (hts e (by simp [he]))
/-- return tuple(opened[0][1]) -/
theorem FbI.ret {D' : L2.Ends} {n : D} {ts : List D} (I : FbI K sgn σ0 H0 Z0 F0 α0 l o xs [(n, ts)] q O σ H Z F) (lb : l < α0.length) (hr : RT K sgn σ0 H0 Z0 F0 D'.rt (.p (.tup ts)) (setS α0 l none)) : tFb3 K o D' σ H := by
  obtain ⟨p, q1, rfl, ⟨x, vs, tf, rx, hp, rv⟩, rfl⟩ := I.sk
  refine ⟨.ref O, I.so, O, _, 0, .ref p.1, rfl, rfl, .of I.ho, rfl, p.1, _, 1, .ref p.2, rfl, rfl, tf.sq, rfl, p.2, vs, rfl, .of hp, fun t ob ht hd hc => ?_⟩
  have J := I.newT (u := .frz ob (.tup vs)) ht
  obtain ⟨v, Fi, Fr, _, _, pp, _, gone⟩ := J.rs.get (getS_same lb)
  rw [setS_setS] at gone
  have k : Keep H Z (upd H t (.frz ob (.tup vs))) Z := (New.dat (Z := Z) ht).keep I.g.zt
  have p2 : (F ++ (O :: [p].map (·.2))).Perm (Fr ++ (Fi ++ (O :: [p].map (·.2)))) := (List.Perm.append_right _ (pp.trans List.perm_append_comm)).trans (by rw [List.append_assoc])
  exact hr _ Z Fr [] _ σ ((J.s.permR p2).lessR fun _ h => List.mem_append_left _ (by simpa using h)) (by rw [List.append_nil]; exact (J.g.perm p2).left) J.sm gone ⟨⟨t, vs, rfl, ⟨ob, upd_same, hd, hc⟩, RDs.keep k _ rv⟩, rfl⟩
end
section
variable {X : Cx} {rx : RX} {c : Am.Ctx} {W : WX} {sgn : List Bool} {r l o sg nm tr : Nat} {s1 s2 s3 : Stmt}
theorem ss_fby (h1 : PS X s1 (tFb1 o)) (h2 : PS X s2 (tFb2 X.K r l o sg nm tr)) (h3 : PS X s3 (tFb3 X.K o))
    (lr : l ≠ r := by decide) (lo : l ≠ o := by decide) (ln : l ≠ nm := by decide) (lt : l ≠ tr := by decide) (ls : l ≠ sg := by decide) (on : o ≠ nm := by decide) (ot : o ≠ tr := by decide) (os : o ≠ sg := by decide) (nt : nm ≠ tr := by decide)
    (so : getL sgn o = some true := by rfl) (sn : getL sgn nm = some true := by rfl) (st' : getL sgn tr = some true := by rfl) (ss : getL sgn sg = some true := by rfl) :
    PSs X [s1, s2, s3] (tSs X.K rx c W sgn (.cons (.fby r l o sg nm tr) .nil)) := PSs.weak (pss_cons h1 (pss_cons h2 (pss_cons h3 pss_nil))) fun D σ H ⟨α, Z, F, N, X', I, w⟩ => by
  have w : onO (getS α r) fun x => onS x fun row => onO (getS α l) fun u => match u with
    | .ol xs => (row.length ≤ 1000 ∧ getS α o = none ∧ getS α sg = none ∧ getS α nm = none ∧ getS α tr = none ∧ Nat.blt o α.length = true ∧ Nat.blt sg α.length = true ∧ Nat.blt nm α.length = true ∧ Nat.blt tr α.length = true) ∧ fbW row xs [(.str [], [])] fun d => N.rt (.p d) (setS α l none)
    | _ => False := w
  obtain ⟨x, er, w⟩ := onO.el w
  obtain ⟨row, rfl, w⟩ := onS.el w
  obtain ⟨u, el, w⟩ := onO.el w
  cases u with
  | ol xs =>
    obtain ⟨⟨z, no, ns, nn, ntr, bo, bs, bn, bt⟩, w⟩ := w
    have bo := Nat.le_of_ble_eq_true bo
    have bs := Nat.le_of_ble_eq_true bs
    have bn := Nat.le_of_ble_eq_true bn
    have bt := Nat.le_of_ble_eq_true bt
    have bl : l < α.length := by
      obtain ⟨x, _, _, h, _⟩ := I.rs.get el
      rw [I.rs.len]
      exact (List.getElem?_eq_some_iff.mp h).1
    refine FbI.start (D' := _) I.rs I.g el lo bo no so fun σ1 H1 F1 q O J => ?_
    refine J.loop er lr z w ln lt ls on ot os nt nn ntr ns sn st' ss bl bn bt bs fun σ2 H2 F2 q2 xs2 n ts J2 k => ?_
    exact J2.ret bl (I.hR _ _ k)
  | _ => exact w.elim
end
section
variable {X : Cx} {pos : Pos}
theorem fv {x : Str} (i : Nat) (hN : X.N[i]? = some x := by rfl) (hv : Vis X.env.scope x := by first | exact .inl rfl | exact .inr (.inl rfl) | exact .inr (.inr rfl)) (hd : (x == ("__debug__" : Str)) = false := by decide) (hcd : (x == ("__classdict__" : Str)) = false := by decide) : PE X (.Name x pos) (tVar i) := pe_var hN hv hd hcd
theorem fstr0 {x : T} {s : Str} {j} (h : s = sT x := by rfl) : PE X (.Constant (.str s) j pos) (tC (.str (sT x))) := by
  subst h
  exact pe_str
theorem fgn {x : Str} (i : Nat) (hN : X.N.Nodup) (hi : X.N[i]? = some x := by rfl) (hx : Loc X.env.scope x := by first | exact .inl rfl | exact .inr rfl) (hf : X.fn x = true ∨ X.env.scope.names.lookup x = some .local := by first | exact .inl rfl | exact .inr rfl | assumption) : PG X (.Name x pos) (gName i) := pg_name hN hi hx hf
theorem fset {x : Str} {e : Expr} {te : TE} {p} (i : Nat) (hN : X.N.Nodup) (he : PE X e te) (hi : X.N[i]? = some x := by rfl) (hx : Loc X.env.scope x := by first | exact .inl rfl | exact .inr rfl) (hs : swapsWith e (some (.Name x p)) pos.line X.env = pure false := by rfl)
    (hf : X.fn x = true ∨ X.env.scope.names.lookup x = some .local := by first | exact .inl rfl | exact .inr rfl | assumption) : PS X (.Assign [.Name x p] e pos) (tAsg te (gName i)) := ps_set hN hi hx he hs hf
theorem fpx : ∀ {e : Expr}, (h : PlainIx e := by intro _ _; rfl) → PlainIx e := fun h => h
end
end Am

set_option maxHeartbeats 0
namespace K33
open PySem PySem.Spec PyProof.Rows L2 Am
def top (i : Nat) : Stmt := PySem.Challenge.pw_heldwithin_k33_forests_of_rows.main.body.getD i (.Pass ⟨0, 0, 0, 0⟩)
abbrev st_f_need_row : Stmt := top 8
abbrev st_f_need_names : Stmt := top 9
abbrev st_f_forest_by : Stmt := top 10
abbrev st_f_law_mix : Stmt := top 12
abbrev st_f_law_deck : Stmt := top 13
abbrev st_f_law_next : Stmt := top 14
abbrev st_f_law_names : Stmt := top 15
abbrev st_f_law_row : Stmt := top 16
abbrev st_f_law_pairs : Stmt := top 17
abbrev st_f_law_forest : Stmt := top 18
abbrev st_f_law_wrong : Stmt := top 19
abbrev st_f_law_due : Stmt := top 20
abbrev st_f_law_told : Stmt := top 21
abbrev st_f_law_same : Stmt := top 22
abbrev st_f_law_spoilt_row : Stmt := top 23
abbrev st_f_law_spoilt_names : Stmt := top 24
abbrev st_f_law : Stmt := top 25
def str_0 : T := [32, 33, 34, 35, 36, 38, 39, 40, 41, 42, 43, 44, 45, 46, 47, 48, 49, 50, 51, 52, 53, 54, 55, 56, 57, 58, 59, 60, 61, 62, 63, 64, 65, 66, 67, 68, 69, 70, 71, 72, 73, 74, 75, 76, 77, 78, 79, 80, 81, 82, 83, 84, 85, 86, 87, 88, 89, 90, 91, 92, 93, 94, 95, 96, 97, 98, 99, 100, 101, 102, 103, 104, 105, 106, 107, 108, 109, 110, 111, 112, 113, 114, 115, 116, 117, 118, 119, 120, 121, 122, 123, 124, 125, 126, 10]
def f_need_row_b1 : MSs := (.cons (.iff (.or (.cmp .notin (.pl (.v 3)) (.tup (.cons (.cst (.str [40])) (.cons (.cst (.str [41])) .nil)))) (.and (.cmp .eq (.pl (.v 3)) (.cst (.str [41]))) (.cmp .eq (.pl (.v 1)) (.cst (.int 0))))) (.cons (.rais 1 (.cons (.pl (.v 2)) .nil)) .nil) .nil) (.cons (.asg (.pl (.v 1)) (.bin .add (.pl (.v 1)) (.idx (.lst (.cons (.cst (.int 1)) (.cons (.neg (.cst (.int 1))) .nil))) (.bi .toInt (.cons (.cmp .eq (.pl (.v 3)) (.cst (.str [41]))) .nil))))) .nil))
@[reducible] def f_need_row : Fn := ⟨1, 4, [false], (.cons (.asg (.pl (.v 1)) (.cst (.int 0))) (.cons (.for (.tup (.cons (.pl (.v 2)) (.cons (.pl (.v 3)) .nil))) (.enum (.pl (.v 0))) f_need_row_b1) (.cons (.iff (.cmp .gt (.pl (.v 1)) (.cst (.int 0))) (.cons (.rais 1 (.cons (.bi .len (.cons (.pl (.v 0)) .nil)) .nil)) .nil) .nil) .nil)))⟩
def f_need_names_b1 : MSs := (.cons (.iff (.cmp .isin (.pl (.v 3)) (.slc (.pl (.v 1)) .none (.some (.pl (.v 2))))) (.cons (.rais 2 (.cons (.pl (.v 3)) .nil)) .nil) .nil) .nil)
@[reducible] def f_need_names : Fn := ⟨2, 4, [false, false], (.cons (.for (.tup (.cons (.pl (.v 2)) (.cons (.pl (.v 3)) .nil))) (.enum (.pl (.v 1))) f_need_names_b1) (.cons (.iff (.cmp .ne (.bin .mul (.cst (.int 2)) (.bi .len (.cons (.pl (.v 1)) .nil))) (.bi .len (.cons (.pl (.v 0)) .nil))) (.cons (.rais 4 .nil) .nil) .nil) .nil))⟩
@[reducible] def f_forest_by : Fn := ⟨2, 7, [false, false], (.cons (.ex (.call 0 (.cons (.pl (.v 0)) .nil))) (.cons (.ex (.call 1 (.cons (.pl (.v 0)) (.cons (.pl (.v 1)) .nil)))) (.cons (.asg (.pl (.v 2)) (.bi .list (.cons (.pl (.v 1)) .nil))) (.cons (.fby 0 2 3 4 5 6) .nil))))⟩
@[reducible] def f_law_mix : Fn := ⟨2, 3, [false, false], (.cons (.asg (.pl (.v 2)) (.bin .add (.bin .mod (.pl (.v 0)) (.cst (.int 2147483629))) (.bin .mul (.bin .mul (.cst (.int 1000003)) (.pl (.v 1))) (.pl (.v 1))))) (.cons (.asg (.pl (.v 2)) (.bin .mod (.bin .add (.pl (.v 2)) (.bin .mul (.cst (.int 7919)) (.pl (.v 1)))) (.cst (.int 2147483629)))) (.cons (.asg (.pl (.v 2)) (.bin .mod (.bin .mul (.pl (.v 2)) (.pl (.v 2))) (.cst (.int 2147483587)))) (.cons (.ret (.bin .fdiv (.bin .mod (.bin .mul (.pl (.v 2)) (.bin .add (.pl (.v 2)) (.cst (.int 40961)))) (.cst (.int 2147483563))) (.cst (.int 4)))) .nil))))⟩
@[reducible] def f_law_deck : Fn := ⟨1, 1, [false], (.cons (.ret (.lst (.cons (.slc (.pl (.v 0)) .none (.some (.cst (.int 63)))) (.cons (.cst (.int 0)) (.cons (.cst (.int 0)) (.cons (.cst (.int 0)) (.cons (.bi .sum (.cons (.slc (.pl (.v 0)) .none (.some (.cst (.int 63)))) .nil)) .nil))))))) .nil)⟩
@[reducible] def f_law_next : Fn := ⟨2, 4, [false, false], (.cons (.iff (.and (.cmp .eq (.idx (.pl (.v 0)) (.cst (.int 2))) (.cst (.int 0))) (.cmp .lt (.idx (.pl (.v 0)) (.cst (.int 1))) (.bi .len (.cons (.idx (.pl (.v 0)) (.cst (.int 0))) .nil)))) (.cons (.asg (.pl (.v 2)) (.idx (.idx (.pl (.v 0)) (.cst (.int 0))) (.idx (.pl (.v 0)) (.cst (.int 1))))) (.cons (.asg (.idx (.pl (.v 0)) (.cst (.int 1))) (.bin .add (.idx (.pl (.v 0)) (.cst (.int 1))) (.cst (.int 1)))) (.cons (.iff (.cmp .lt (.pl (.v 2)) (.bin .pow (.cst (.int 10)) (.cst (.int 18)))) (.cons (.ret (.bin .mod (.call 3 (.cons (.pl (.v 2)) (.cons (.idx (.pl (.v 0)) (.cst (.int 1))) .nil))) (.pl (.v 1)))) .nil) .nil) (.cons (.asg (.idx (.pl (.v 0)) (.cst (.int 2))) (.pl (.v 2))) .nil)))) .nil) (.cons (.iff (.cmp .gt (.idx (.pl (.v 0)) (.cst (.int 2))) (.cst (.int 0))) (.cons (.asg (.pl (.v 3)) (.bin .mod (.idx (.pl (.v 0)) (.cst (.int 2))) (.pl (.v 1)))) (.cons (.asg (.idx (.pl (.v 0)) (.cst (.int 2))) (.bin .fdiv (.idx (.pl (.v 0)) (.cst (.int 2))) (.pl (.v 1)))) (.cons (.ret (.pl (.v 3))) .nil))) .nil) (.cons (.asg (.idx (.pl (.v 0)) (.cst (.int 3))) (.bin .add (.idx (.pl (.v 0)) (.cst (.int 3))) (.cst (.int 1)))) (.cons (.ret (.bin .mod (.call 3 (.cons (.idx (.pl (.v 0)) (.cst (.int 4))) (.cons (.bin .add (.idx (.pl (.v 0)) (.cst (.int 3))) (.cst (.int 269))) .nil))) (.pl (.v 1)))) .nil))))⟩
def f_law_names_b1 : MSs := (.cons (.asg (.pl (.v 8)) (.bin .add (.bin .add (.idx (.pl (.v 2)) (.bin .mod (.pl (.v 9)) (.cst (.int 26)))) (.idx (.pl (.v 2)) (.bin .fdiv (.pl (.v 9)) (.cst (.int 26))))) (.slc (.pl (.v 4)) .none (.some (.cst (.int 4)))))) (.cons (.asg (.pl (.v 9)) (.bin .add (.pl (.v 9)) (.cst (.int 1)))) .nil))
def f_law_names_b2 : MSs := (.cons (.asg (.pl (.v 8)) (.meth .join (.cst (.str [])) (.cons (.lc (.idx (.pl (.v 2)) (.call 5 (.cons (.pl (.v 0)) (.cons (.cst (.int 26)) .nil)))) (.pl (.v 10)) (.range (.cons (.bin .add (.cst (.int 1)) (.call 5 (.cons (.pl (.v 0)) (.cons (.cst (.int 8)) .nil)))) .nil)) .nil [10]) .nil))) (.cons (.iff (.cmp .eq (.pl (.v 3)) (.cst (.int 1))) (.cons (.asg (.pl (.v 8)) (.bin .add (.slc (.pl (.v 4)) .none (.some (.pl (.v 5)))) (.idx (.pl (.v 2)) (.bin .mod (.bin .add (.pl (.v 7)) (.pl (.v 5))) (.cst (.int 26)))))) (.cons (.asg (.pl (.v 8)) (.bin .add (.bin .add (.pl (.v 8)) (.slc (.pl (.v 4)) (.some (.pl (.v 5))) (.some (.cst (.int 6))))) (.bin .mul (.idx (.pl (.v 4)) (.cst (.int 6))) (.bin .fdiv (.pl (.v 7)) (.cst (.int 26)))))) .nil)) .nil) (.cons (.iff (.and (.cmp .eq (.pl (.v 3)) (.cst (.int 2))) (.cmp .lt (.pl (.v 7)) (.cst (.int 8)))) (.cons (.asg (.pl (.v 8)) (.slc (.pl (.v 4)) .none (.some (.bin .add (.pl (.v 7)) (.cst (.int 1)))))) .nil) .nil) (.cons (.asg (.pl (.v 9)) (.cst (.int 0))) (.cons (.whl (.cmp .isin (.pl (.v 8)) (.pl (.v 6))) f_law_names_b1) (.cons (.ex (.mut .append (.v 6) (.cons (.pl (.v 8)) .nil))) .nil))))))
@[reducible] def f_law_names : Fn := ⟨2, 11, [false, false], (.cons (.asg (.pl (.v 2)) (.cst (.str [97, 98, 99, 100, 101, 102, 103, 104, 105, 106, 107, 108, 109, 110, 111, 112, 113, 114, 115, 116, 117, 118, 119, 120, 121, 122]))) (.cons (.asg (.pl (.v 3)) (.call 5 (.cons (.pl (.v 0)) (.cons (.cst (.int 3)) .nil)))) (.cons (.asg (.pl (.v 4)) (.meth .join (.cst (.str [])) (.cons (.lc (.idx (.pl (.v 2)) (.call 5 (.cons (.pl (.v 0)) (.cons (.cst (.int 26)) .nil)))) (.pl (.v 7)) (.range (.cons (.cst (.int 8)) .nil)) .nil [7]) .nil))) (.cons (.asg (.pl (.v 5)) (.call 5 (.cons (.pl (.v 0)) (.cons (.cst (.int 7)) .nil)))) (.cons (.asg (.pl (.v 6)) (.lst .nil)) (.cons (.for (.pl (.v 7)) (.range (.cons (.pl (.v 1)) .nil)) f_law_names_b2) (.cons (.ret (.lc (.mut .popAt (.v 6) (.cons (.call 5 (.cons (.pl (.v 0)) (.cons (.bi .len (.cons (.pl (.v 6)) .nil)) .nil))) .nil)) (.pl (.v 7)) (.range (.cons (.pl (.v 1)) .nil)) .nil [7])) .nil)))))))⟩
def f_law_row_b1 : MSs := (.cons (.asg (.pl (.v 6)) (.idx (.lst (.cons (.call 5 (.cons (.pl (.v 0)) (.cons (.cst (.int 2)) .nil))) (.cons (.cst (.int 1)) (.cons (.cst (.int 0)) (.cons (.bi .toInt (.cons (.cmp .gt (.call 5 (.cons (.pl (.v 0)) (.cons (.cst (.int 4)) .nil))) (.cst (.int 0))) .nil)) .nil))))) (.pl (.v 2)))) (.cons (.iff (.or (.cmp .eq (.pl (.v 4)) (.cst (.int 0))) (.and (.cmp .lt (.pl (.v 4)) (.pl (.v 5))) (.cmp .eq (.pl (.v 6)) (.cst (.int 1))))) (.cons (.asg (.pl (.v 3)) (.bin .add (.pl (.v 3)) (.cst (.str [40])))) (.cons (.asg (.pl (.v 4)) (.bin .add (.pl (.v 4)) (.cst (.int 1)))) .nil)) (.cons (.asg (.pl (.v 3)) (.bin .add (.pl (.v 3)) (.cst (.str [41])))) (.cons (.asg (.pl (.v 4)) (.bin .sub (.pl (.v 4)) (.cst (.int 1)))) .nil))) .nil))
@[reducible] def f_law_row : Fn := ⟨2, 7, [false, false], (.cons (.asg (.pl (.v 2)) (.call 5 (.cons (.pl (.v 0)) (.cons (.cst (.int 4)) .nil)))) (.cons (.asg (.pl (.v 3)) (.cst (.str []))) (.cons (.asg (.pl (.v 4)) (.cst (.int 0))) (.cons (.for (.pl (.v 5)) (.range (.cons (.bin .mul (.cst (.int 2)) (.pl (.v 1))) (.cons (.cst (.int 0)) (.cons (.neg (.cst (.int 1))) .nil)))) f_law_row_b1) (.cons (.ret (.pl (.v 3))) .nil)))))⟩
@[reducible] def f_law_pairs : Fn := ⟨2, 2, [false, false], (.cons (.ret (.idx (.lst (.cons (.call 5 (.cons (.pl (.v 0)) (.cons (.bin .add (.pl (.v 1)) (.cst (.int 1))) .nil))) (.cons (.call 5 (.cons (.pl (.v 0)) (.cons (.cst (.int 5)) .nil))) (.cons (.pl (.v 1)) .nil)))) (.call 5 (.cons (.pl (.v 0)) (.cons (.cst (.int 3)) .nil))))) .nil)⟩
def f_law_forest_b1 : MSs := (.cons (.asg (.pl (.v 4)) (.bin .add (.pl (.v 4)) (.idx (.lst (.cons (.cst (.int 1)) (.cons (.neg (.cst (.int 1))) .nil))) (.bi .toInt (.cons (.cmp .eq (.idx (.pl (.v 0)) (.pl (.v 5))) (.cst (.str [41]))) .nil))))) (.cons (.asg (.pl (.v 5)) (.bin .add (.pl (.v 5)) (.cst (.int 1)))) .nil))
def f_law_forest_b2 : MSs := (.cons (.asg (.pl (.v 4)) (.cst (.int 1))) (.cons (.asg (.pl (.v 5)) (.cst (.int 1))) (.cons (.whl (.cmp .gt (.pl (.v 4)) (.cst (.int 0))) f_law_forest_b1) (.cons (.asg (.pl (.v 6)) (.slc (.pl (.v 0)) (.some (.cst (.int 1))) (.some (.bin .sub (.pl (.v 5)) (.cst (.int 1)))))) (.cons (.ex (.mut .append (.v 2) (.cons (.tup (.cons (.idx (.pl (.v 3)) (.cst (.int 0))) (.cons (.call 9 (.cons (.pl (.v 6)) (.cons (.slc (.pl (.v 3)) (.some (.cst (.int 1))) (.some (.bin .add (.cst (.int 1)) (.bin .fdiv (.bi .len (.cons (.pl (.v 6)) .nil)) (.cst (.int 2)))))) .nil))) .nil))) .nil))) (.cons (.asg (.pl (.v 3)) (.slc (.pl (.v 3)) (.some (.bin .add (.cst (.int 1)) (.bin .fdiv (.bi .len (.cons (.pl (.v 6)) .nil)) (.cst (.int 2))))) .none)) (.cons (.asg (.pl (.v 0)) (.slc (.pl (.v 0)) (.some (.pl (.v 5))) .none)) .nil)))))))
@[reducible] def f_law_forest : Fn := ⟨2, 7, [true, false], (.cons (.asg (.pl (.v 2)) (.lst .nil)) (.cons (.asg (.pl (.v 3)) (.bi .list (.cons (.pl (.v 1)) .nil))) (.cons (.whl (.cmp .ne (.pl (.v 0)) (.cst (.str []))) f_law_forest_b2) (.cons (.ret (.bi .tuple (.cons (.pl (.v 2)) .nil))) .nil))))⟩
def f_law_wrong_b1 : MSs := (.cons (.asg (.pl (.v 1)) (.bin .add (.pl (.v 1)) (.meth .get (.dsp (.cons (.cst (.str [40])) (.cons (.cst (.int 1)) (.cons (.cst (.str [41])) (.cons (.neg (.cst (.int 1))) .nil))))) (.cons (.pl (.v 3)) (.cons (.neg (.cst (.int 99))) .nil))))) (.cons (.iff (.cmp .lt (.pl (.v 1)) (.cst (.int 0))) (.cons (.ret (.pl (.v 2))) .nil) .nil) .nil))
@[reducible] def f_law_wrong : Fn := ⟨1, 4, [false], (.cons (.asg (.pl (.v 1)) (.cst (.int 0))) (.cons (.for (.tup (.cons (.pl (.v 2)) (.cons (.pl (.v 3)) .nil))) (.enum (.pl (.v 0))) f_law_wrong_b1) (.cons (.iff (.cmp .gt (.pl (.v 1)) (.cst (.int 0))) (.cons (.ret (.bi .len (.cons (.pl (.v 0)) .nil))) .nil) .nil) (.cons (.ret (.cst .non)) .nil))))⟩
def f_law_due_b1 : MSs := (.cons (.iff (.cmp .isin (.idx (.pl (.v 1)) (.pl (.v 3))) (.slc (.pl (.v 1)) .none (.some (.pl (.v 3))))) (.cons (.ret (.tup (.cons (.cst (.str [110, 97, 109, 101])) (.cons (.idx (.pl (.v 1)) (.pl (.v 3))) .nil)))) .nil) .nil) .nil)
@[reducible] def f_law_due : Fn := ⟨2, 4, [false, false], (.cons (.asg (.pl (.v 2)) (.call 10 (.cons (.pl (.v 0)) .nil))) (.cons (.iff (.cmp .notnon (.pl (.v 2)) (.cst .non)) (.cons (.ret (.tup (.cons (.cst (.str [114, 111, 119, 115])) (.cons (.pl (.v 2)) .nil)))) .nil) .nil) (.cons (.for (.pl (.v 3)) (.range (.cons (.bi .len (.cons (.pl (.v 1)) .nil)) .nil)) f_law_due_b1) (.cons (.iff (.cmp .ne (.bin .mul (.cst (.int 2)) (.bi .len (.cons (.pl (.v 1)) .nil))) (.bi .len (.cons (.pl (.v 0)) .nil))) (.cons (.ret (.tup (.cons (.cst (.str [112, 108, 97, 99, 101])) (.cons (.cst (.int 0)) .nil)))) .nil) .nil) (.cons (.ret (.tup (.cons (.cst (.str [102, 111, 114, 101, 115, 116])) (.cons (.call 9 (.cons (.pl (.v 0)) (.cons (.pl (.v 1)) .nil))) .nil)))) .nil)))))⟩
@[reducible] def f_law_told : Fn := ⟨2, 6, [false, false], (.cons (.asg (.pl (.v 2)) (.cst .non)) (.cons (.asg (.pl (.v 3)) (.cst .non)) (.cons (.tryA (.cons (.asg (.pl (.v 2)) (.call 2 (.cons (.pl (.v 0)) (.cons (.pl (.v 1)) .nil)))) .nil) 0 3 4) (.cons (.iff (.cmp .isnon (.pl (.v 3)) (.cst .non)) (.cons (.ret (.tup (.cons (.cst (.str [102, 111, 114, 101, 115, 116])) (.cons (.pl (.v 2)) .nil)))) .nil) .nil) (.cons (.asg (.pl (.v 5)) (.lst (.cons (.bi (.isinst [] [1]) (.cons (.pl (.v 3)) .nil)) (.cons (.bi (.isinst [] [2]) (.cons (.pl (.v 3)) .nil)) (.cons (.bi (.isinst [] [4]) (.cons (.pl (.v 3)) .nil)) .nil))))) (.cons (.iff (.or (.not (.bi (.isinst [] [6]) (.cons (.pl (.v 3)) .nil))) (.or (.bi (.isinst [] [5, 3]) (.cons (.pl (.v 3)) .nil)) (.cmp .ne (.meth .count (.pl (.v 5)) (.cons (.cst (.bl true)) .nil)) (.cst (.int 1))))) (.cons (.ret (.tup (.cons (.cst (.str [111, 116, 104, 101, 114])) (.cons (.cst (.int 0)) .nil)))) .nil) .nil) (.cons (.iff (.idx (.pl (.v 5)) (.cst (.int 0))) (.cons (.ret (.tup (.cons (.cst (.str [114, 111, 119, 115])) (.cons (.fld (.pl (.v 3)) 1) .nil)))) .nil) .nil) (.cons (.iff (.idx (.pl (.v 5)) (.cst (.int 1))) (.cons (.ret (.tup (.cons (.cst (.str [110, 97, 109, 101])) (.cons (.fld (.pl (.v 3)) 2) .nil)))) .nil) .nil) (.cons (.ret (.tup (.cons (.cst (.str [112, 108, 97, 99, 101])) (.cons (.cst (.int 0)) .nil)))) .nil)))))))))⟩
@[reducible] def f_law_same : Fn := ⟨2, 4, [false, false], (.cons (.iff (.bi (.isinst [.tuple] []) (.cons (.pl (.v 1)) .nil)) (.cons (.iff (.or (.not (.bi (.isinst [.tuple] []) (.cons (.pl (.v 0)) .nil))) (.cmp .ne (.bi .len (.cons (.pl (.v 0)) .nil)) (.bi .len (.cons (.pl (.v 1)) .nil)))) (.cons (.ret (.cst (.bl false))) .nil) .nil) (.cons (.ret (.cmp .eq (.lc (.cst (.int 1)) (.tup (.cons (.pl (.v 2)) (.cons (.pl (.v 3)) .nil))) (.zip (.pl (.v 0)) (.pl (.v 1))) (.cons (.not (.call 13 (.cons (.pl (.v 2)) (.cons (.pl (.v 3)) .nil)))) .nil) [2, 3]) (.lst .nil))) .nil)) .nil) (.cons (.iff (.bi (.isinst [.str] []) (.cons (.pl (.v 1)) .nil)) (.cons (.ret (.and (.bi (.isinst [.str] []) (.cons (.pl (.v 0)) .nil)) (.cmp .eq (.pl (.v 0)) (.pl (.v 1))))) .nil) .nil) (.cons (.ret (.and (.bi (.isinst [.int] []) (.cons (.pl (.v 0)) .nil)) (.and (.not (.bi (.isinst [.bool] []) (.cons (.pl (.v 0)) .nil))) (.cmp .eq (.pl (.v 0)) (.pl (.v 1)))))) .nil)))⟩
@[reducible] def f_law_spoilt_row : Fn := ⟨2, 7, [false, false], (.cons (.asg (.pl (.v 2)) (.cst (.str str_0))) (.cons (.asg (.pl (.v 3)) (.bi .min2 (.cons (.cst (.int 79)) (.cons (.idx (.lst (.cons (.call 5 (.cons (.pl (.v 0)) (.cons (.bin .add (.bi .len (.cons (.pl (.v 1)) .nil)) (.cst (.int 1))) .nil))) (.cons (.bin .sub (.bi .len (.cons (.pl (.v 1)) .nil)) (.cst (.int 1))) (.cons (.cst (.int 0)) .nil)))) (.bi .max2 (.cons (.cst (.int 0)) (.cons (.bin .sub (.call 5 (.cons (.pl (.v 0)) (.cons (.cst (.int 6)) .nil))) (.cst (.int 3))) .nil)))) .nil)))) (.cons (.asg (.pl (.v 4)) (.idx (.lst (.cons (.cst (.str [40])) (.cons (.cst (.str [41])) (.cons (.idx (.pl (.v 2)) (.call 5 (.cons (.pl (.v 0)) (.cons (.bi .len (.cons (.pl (.v 2)) .nil)) .nil)))) .nil)))) (.call 5 (.cons (.pl (.v 0)) (.cons (.cst (.int 3)) .nil))))) (.cons (.asg (.pl (.v 5)) (.call 5 (.cons (.pl (.v 0)) (.cons (.cst (.int 5)) .nil)))) (.cons (.iff (.and (.cmp .eq (.pl (.v 5)) (.cst (.int 0))) (.cmp .ge (.pl (.v 3)) (.cst (.int 0)))) (.cons (.ret (.bin .add (.bin .add (.slc (.pl (.v 1)) .none (.some (.pl (.v 3)))) (.pl (.v 4))) (.slc (.pl (.v 1)) (.some (.bin .add (.pl (.v 3)) (.cst (.int 1)))) .none))) .nil) .nil) (.cons (.iff (.and (.cmp .eq (.pl (.v 5)) (.cst (.int 1))) (.and (.cmp .lt (.bi .len (.cons (.pl (.v 1)) .nil)) (.cst (.int 80))) (.cmp .ge (.pl (.v 3)) (.cst (.int 0))))) (.cons (.ret (.bin .add (.bin .add (.slc (.pl (.v 1)) .none (.some (.pl (.v 3)))) (.pl (.v 4))) (.slc (.pl (.v 1)) (.some (.pl (.v 3))) .none))) .nil) .nil) (.cons (.iff (.and (.cmp .eq (.pl (.v 5)) (.cst (.int 2))) (.cmp .ge (.pl (.v 3)) (.cst (.int 0)))) (.cons (.ret (.bin .add (.slc (.pl (.v 1)) .none (.some (.pl (.v 3)))) (.slc (.pl (.v 1)) (.some (.bin .add (.pl (.v 3)) (.cst (.int 1)))) .none))) .nil) .nil) (.cons (.iff (.cmp .eq (.pl (.v 5)) (.cst (.int 3))) (.cons (.ret (.rev (.pl (.v 1)))) .nil) .nil) (.cons (.asg (.pl (.v 6)) (.call 5 (.cons (.pl (.v 0)) (.cons (.bin .add (.bi .len (.cons (.pl (.v 1)) .nil)) (.cst (.int 1))) .nil)))) (.cons (.ret (.bin .add (.rev (.slc (.pl (.v 1)) .none (.some (.pl (.v 6))))) (.slc (.pl (.v 1)) (.some (.pl (.v 6))) .none))) .nil))))))))))⟩
def f_law_spoilt_names_b1 : MSs := (.cons (.asg (.idx (.pl (.v 2)) (.call 5 (.cons (.pl (.v 0)) (.cons (.bi .len (.cons (.pl (.v 2)) .nil)) .nil)))) (.idx (.pl (.v 2)) (.call 5 (.cons (.pl (.v 0)) (.cons (.bi .len (.cons (.pl (.v 2)) .nil)) .nil))))) .nil)
@[reducible] def f_law_spoilt_names : Fn := ⟨2, 5, [false, false], (.cons (.asg (.pl (.v 2)) (.bi .list (.cons (.pl (.v 1)) .nil))) (.cons (.asg (.pl (.v 3)) (.call 5 (.cons (.pl (.v 0)) (.cons (.cst (.int 5)) .nil)))) (.cons (.iff (.and (.cmp .lt (.pl (.v 3)) (.cst (.int 3))) (.cmp .ne (.pl (.v 2)) (.lst .nil))) (.cons (.for (.pl (.v 4)) (.range (.cons (.bin .add (.cst (.int 1)) (.bin .fdiv (.pl (.v 3)) (.cst (.int 2)))) .nil)) f_law_spoilt_names_b1) .nil) .nil) (.cons (.iff (.and (.cmp .eq (.pl (.v 3)) (.cst (.int 2))) (.chain .lt .lt (.cst (.int 0)) (.bi .len (.cons (.pl (.v 2)) .nil)) (.cst (.int 40)))) (.cons (.ex (.mut .insert (.v 2) (.cons (.call 5 (.cons (.pl (.v 0)) (.cons (.bin .add (.bi .len (.cons (.pl (.v 2)) .nil)) (.cst (.int 1))) .nil))) (.cons (.idx (.pl (.v 2)) (.call 5 (.cons (.pl (.v 0)) (.cons (.bi .len (.cons (.pl (.v 2)) .nil)) .nil)))) .nil)))) .nil) .nil) (.cons (.iff (.cmp .eq (.pl (.v 3)) (.cst (.int 3))) (.cons (.asg (.pl (.v 2)) (.slc (.pl (.v 2)) .none (.some (.call 5 (.cons (.pl (.v 0)) (.cons (.bin .add (.bi .len (.cons (.pl (.v 2)) .nil)) (.cst (.int 1))) .nil)))))) .nil) .nil) (.cons (.iff (.and (.cmp .eq (.pl (.v 3)) (.cst (.int 4))) (.cmp .lt (.bi .len (.cons (.pl (.v 2)) .nil)) (.cst (.int 40)))) (.cons (.ex (.mut .append (.v 2) (.cons (.cst (.str [122, 122, 122, 122, 122, 122, 122, 122])) .nil))) .nil) .nil) (.cons (.ret (.bi .tuple (.cons (.pl (.v 2)) .nil))) .nil)))))))⟩
def f_law_b1 : MSs := (.cons (.iff (.not (.call 13 (.cons (.call 12 (.cons (.pl (.v 6)) (.cons (.pl (.v 7)) .nil))) (.cons (.call 11 (.cons (.pl (.v 6)) (.cons (.pl (.v 7)) .nil))) .nil)))) (.cons (.ret (.cst (.bl false))) .nil) .nil) .nil)
def f_law_b2 : MSs := (.cons (.for (.pl (.v 7)) (.seq (.lst (.cons (.pl (.v 4)) (.cons (.call 15 (.cons (.pl (.v 1)) (.cons (.pl (.v 4)) .nil))) (.cons (.pl (.v 4)) .nil))))) f_law_b1) .nil)
def f_law_b3 : MSs := (.cons (.asg (.pl (.v 3)) (.call 7 (.cons (.pl (.v 1)) (.cons (.call 8 (.cons (.pl (.v 1)) (.cons (.idx (.lst (.cons (.cst (.int 12)) (.cons (.cst (.int 12)) (.cons (.cst (.int 40)) .nil)))) (.call 5 (.cons (.pl (.v 1)) (.cons (.cst (.int 3)) .nil)))) .nil))) .nil)))) (.cons (.asg (.pl (.v 4)) (.bi .tuple (.cons (.call 6 (.cons (.pl (.v 1)) (.cons (.bin .fdiv (.bi .len (.cons (.pl (.v 3)) .nil)) (.cst (.int 2))) .nil))) .nil))) (.cons (.asg (.pl (.v 5)) (.call 14 (.cons (.pl (.v 1)) (.cons (.pl (.v 3)) .nil)))) (.cons (.iff (.cmp .eq (.call 5 (.cons (.pl (.v 1)) (.cons (.cst (.int 2)) .nil))) (.cst (.int 0))) (.cons (.asg (.pl (.v 5)) (.call 14 (.cons (.pl (.v 1)) (.cons (.slc (.pl (.v 5)) .none (.some (.cst (.int 80)))) .nil)))) .nil) .nil) (.cons (.for (.pl (.v 6)) (.seq (.lst (.cons (.pl (.v 3)) (.cons (.pl (.v 5)) .nil)))) f_law_b2) .nil)))))
@[reducible] def f_law : Fn := ⟨1, 8, [false], (.cons (.asg (.pl (.v 1)) (.call 4 (.cons (.pl (.v 0)) .nil))) (.cons (.for (.pl (.v 2)) (.range (.cons (.cst (.int 8)) .nil)) f_law_b3) (.cons (.ret (.and (.cmp .eq (.call 12 (.cons (.cst (.str [40])) (.cons (.tup .nil) .nil))) (.tup (.cons (.cst (.str [114, 111, 119, 115])) (.cons (.cst (.int 1)) .nil)))) (.and (.cmp .eq (.call 12 (.cons (.cst (.str [41, 40])) (.cons (.tup (.cons (.cst (.str [97])) (.cons (.cst (.str [97])) .nil))) .nil))) (.tup (.cons (.cst (.str [114, 111, 119, 115])) (.cons (.cst (.int 0)) .nil)))) (.cmp .eq (.call 2 (.cons (.cst (.str [])) (.cons (.tup .nil) .nil))) (.tup .nil))))) .nil)))⟩
@[reducible] def dead : Fn := ⟨0, 0, [], .nil⟩
@[reducible] def alL (k : Nat) : Nat := match k with | k => k
@[reducible] def subL (e k : Nat) : Bool := subE (alL e) (alL k)
@[reducible] def PP : Prog := ⟨[f_need_row, f_need_names, f_forest_by, f_law_mix, f_law_deck, f_law_next, f_law_names, f_law_row, f_law_pairs, f_law_forest, f_law_wrong, f_law_due, f_law_told, f_law_same, f_law_spoilt_row, f_law_spoilt_names, f_law], fun _ => none, subL⟩
def clsB (s : Stmt) (j : Nat) : Stmt := match s with | .ClassDef (body := b) .. => b.getD j (.Pass ⟨0, 0, 0, 0⟩) | _ => .Pass ⟨0, 0, 0, 0⟩
abbrev st_i1 : Stmt := clsB (top 2) 0
abbrev st_i2 : Stmt := clsB (top 3) 0
structure Txt [CN] (P : Program) (w : World) (K : PySem.W.Frag) (mg : Str → Option Value) (base : Heap) : Prop where
  E : EK K
  m0 : mg "HoldError" = some (.ref (CN.adr 0))
  m1 : mg "NoRows" = some (.ref (CN.adr 1))
  m2 : mg "NoName" = some (.ref (CN.adr 2))
  m3 : mg "NoNest" = some (.ref (CN.adr 3))
  m4 : mg "NoPlace" = some (.ref (CN.adr 4))
  m5 : mg "NoAsk" = some (.ref (CN.adr 5))
  hs : ∀ e d, CN.sub e d = subL e d
  f1 : CN.fld 1 = "row"
  f2 : CN.fld 2 = "word"
  f3 : CN.fld 3 = "pair"
  i1 : XI P w K mg base 1 "row"
  i2 : XI P w K mg base 2 "word"
  o4 : ExcOwn0 K (CN.adr 4)
  z : True
  z_ValueError : mg "ValueError" = none
  z_bool : mg "bool" = none
  z_enumerate : mg "enumerate" = none
  z_int : mg "int" = none
  z_isinstance : mg "isinstance" = none
  z_len : mg "len" = none
  z_list : mg "list" = none
  z_max : mg "max" = none
  z_min : mg "min" = none
  z_range : mg "range" = none
  z_str : mg "str" = none
  z_sum : mg "sum" = none
  z_tuple : mg "tuple" = none
  z_zip : mg "zip" = none
section
variable [CN]
variable {P : Program} {w : World} {K : PySem.W.Frag} {mg : Str → Option Value} {base : Heap}
theorem si_1 : FnScope [("self" : Str), ("row" : Str)] [("self" : Str), ("row" : Str)] (defScope st_i1) := ⟨rfl, rfl, rfl, by decide +kernel, rfl, by decide +kernel, by decide +kernel⟩
theorem init_1 {C0 C fi : Addr} {fd : FuncData} (F : Fun K "__init__" "NoRows.__init__" st_i1 fi fd) (T : OexC K C) (hno : PySem.W.findIn K (.ref C) "row" = some none) (m0 : mg "HoldError" = some (.ref C0)) (r0 : PySem.W.readsIn K C0 (.type "type") = true) (s0 : PySem.W.specialIn K (.ref C0) "__getattribute__" = some (some (.builtin "type.__getattribute__"))) (v0 : PySem.W.findCls K (.ref C0) (.type "type") "__init__" = some (.val (.builtin "ValueError.__init__"))) (zs : mg "str" = none) : FnOk P w K mg base (L2.CX P w) 1 fi fd [("self" : Str), ("row" : Str)] (spI K C "row" (okN 1)) :=
  init_ok F si_1 T hno (msg1 (m := "no rows by line or place ") (by decide)) fun cdv A outer s H E hr =>
    pss_cons (ps_expr (pe_hinit rfl m0 r0 s0 v0 (pa_cons (pv 0) (pa_cons (pe_op op_add_str pe_str (pe_callTy (r := rSI) call_str_int rfl zs rfl (pa_cons (pv 1) pa_nil))) pa_nil)))) (pss_one (ps_ost (pv 0) (pv 1)))
theorem si_2 : FnScope [("self" : Str), ("word" : Str)] [("self" : Str), ("word" : Str)] (defScope st_i2) := ⟨rfl, rfl, rfl, by decide +kernel, rfl, by decide +kernel, by decide +kernel⟩
theorem init_2 {C0 C fi : Addr} {fd : FuncData} (F : Fun K "__init__" "NoName.__init__" st_i2 fi fd) (T : OexC K C) (hno : PySem.W.findIn K (.ref C) "word" = some none) (m0 : mg "HoldError" = some (.ref C0)) (r0 : PySem.W.readsIn K C0 (.type "type") = true) (s0 : PySem.W.specialIn K (.ref C0) "__getattribute__" = some (some (.builtin "type.__getattribute__"))) (v0 : PySem.W.findCls K (.ref C0) (.type "type") "__init__" = some (.val (.builtin "ValueError.__init__"))) (zs : mg "str" = none) : FnOk P w K mg base (L2.CX P w) 1 fi fd [("self" : Str), ("word" : Str)] (spI K C "word" (okN 2)) :=
  init_ok F si_2 T hno (msg2 (m := "no such name: ") (by decide)) fun cdv A outer s H E hr =>
    pss_cons (ps_expr (pe_hinit rfl m0 r0 s0 v0 (pa_cons (pv 0) (pa_cons (pe_op op_add_str pe_str (pe_callTy (r := rSS) SkE.call_str_str rfl zs rfl (pa_cons (pv 1) pa_nil))) pa_nil)))) (pss_one (ps_ost (pv 0) (pv 1)))
theorem sc_f_need_row : FnScope ["row", "opened", "place", "sign"] ["row"] (defScope st_f_need_row) := ⟨rfl, rfl, rfl, by decide +kernel, rfl, by decide +kernel, by decide +kernel⟩
theorem ok_f_need_row {f : Addr} {fd : FuncData} {k : Nat} (T : Txt P w K mg base) (F : FD K mg "need_row" st_f_need_row ["row"] f fd)   : FnOk P w K mg base (L2.CX P w) (k + 3) f fd ["row"] (spA K (rxC K) (wpF0 PP (k + 1) 0)) :=
  fn_ok (PP := PP) (L := k + 2) (d := f_need_row) F.F sc_f_need_row rfl rfl rfl rfl fun cdv A outer s H E B =>
    (ss_cons (s_set s_int B.nd) (ss_cons (s_for B.po B.hc (si_enum T.z_enumerate (s_var 0)) (sg_tup (by exact B.hc) (sgs_cons (sg_name (by exact B.nd)) (sgs_cons (sg_name (by exact B.nd)) sgs_nil))) (ss_cons (s_if (PW.pt (s_orT (s_cmpT (by exact B.hu) .notin (s_var 3) (s_tup (sa_cons (s_str) (sa_cons (s_str) sa_nil)))) (s_or1T (PW.pt (s_andT (s_cmpT (by exact B.hu) .eq (s_var 3) (s_str)) (s_and1T (s_cmpT (by exact B.hu) .eq (s_var 1) s_int))))))) (ss_cons (s_rais1 B 1 (by decide) (T.i1.mk' B T.m1) (sa_cons (s_varK 2) sa_nil)) ss_nil) ss_nil) (ss_cons (s_set (s_bin .add (s_var 1) (s_idx (by exact B.hu) (s_lst (sa_cons s_int (sa_cons (s_neg s_int) sa_nil))) (s_biT cr_int T.z_int (sl_cons (s_cmp (by exact B.hu) .eq (s_var 3) (s_str)) sl_nil)))) B.nd) ss_nil))) (ss_cons (s_if (s_cmpT (by exact B.hu) .gt (s_var 1) s_int) (ss_cons (s_rais1 B 1 (by decide) (T.i1.mk' B T.m1) (sa_cons (s_bi cr_len T.z_len (sl_cons (s_var 0) sl_nil)) sa_nil)) ss_nil) ss_nil) ss_nil)))
theorem sc_f_need_names : FnScope ["row", "names", "place", "name"] ["row", "names"] (defScope st_f_need_names) := ⟨rfl, rfl, rfl, by decide +kernel, rfl, by decide +kernel, by decide +kernel⟩
theorem ok_f_need_names {f : Addr} {fd : FuncData} {k : Nat} (T : Txt P w K mg base) (F : FD K mg "need_names" st_f_need_names ["row", "names"] f fd)   : FnOk P w K mg base (L2.CX P w) (k + 3) f fd ["row", "names"] (spA K (rxC K) (wpF0 PP (k + 1) 1)) :=
  fn_ok (PP := PP) (L := k + 2) (d := f_need_names) F.F sc_f_need_names rfl rfl rfl rfl fun cdv A outer s H E B =>
    (ss_cons (s_for B.po B.hc (si_enum T.z_enumerate (s_var 1)) (sg_tup (by exact B.hc) (sgs_cons (sg_name (by exact B.nd)) (sgs_cons (sg_name (by exact B.nd)) sgs_nil))) (ss_cons (s_if (s_cmpT (by exact B.hu) .isin (s_var 3) (s_slc (s_var 1) s_no (s_so (s_varK 2)))) (ss_cons (s_rais1 B 2 (by decide) (T.i2.mk' B T.m2) (sa_cons (s_varK 3) sa_nil)) ss_nil) ss_nil) ss_nil)) (ss_cons (s_if (s_cmpT (by exact B.hu) .ne (s_bin .mul s_int (s_bi cr_len T.z_len (sl_cons (s_var 1) sl_nil))) (s_bi cr_len T.z_len (sl_cons (s_var 0) sl_nil))) (ss_cons (s_rais0 B 4 (by decide) (pmk_own0 T.o4 T.m4 T.E (by decide) (by rfl) (by decide))) ss_nil) ss_nil) ss_nil))
theorem sc_f_forest_by : FnScope ["row", "names", "left", "opened", "sign", "name", "trees"] ["row", "names"] (defScope st_f_forest_by) := ⟨rfl, rfl, rfl, by decide +kernel, rfl, by decide +kernel, by decide +kernel⟩
theorem ok_f_forest_by {f : Addr} {fd : FuncData} {k : Nat} (T : Txt P w K mg base) (F : FD K mg "forest_by" st_f_forest_by ["row", "names"] f fd)  (D_need_row : Def P w K mg base (rxC K) (k + 2) (wpF0 PP k 0) "need_row") (D_need_names : Def P w K mg base (rxC K) (k + 2) (wpF0 PP k 1) "need_names") : FnOk P w K mg base (L2.CX P w) (k + 3) f fd ["row", "names"] (spA K (rxC K) (wpF0 PP (k + 1) 2)) :=
  fn_ok (PP := PP) (L := k + 2) (d := f_forest_by) F.F sc_f_forest_by rfl rfl rfl rfl fun cdv A outer s H E B =>
    (ss_cons (s_ex (s_call (c := cx PP k) D_need_row (by exact B.hr) B.tk (sl_cons (s_var 0) sl_nil))) (ss_cons (s_ex (s_call (c := cx PP k) D_need_names (by exact B.hr) B.tk (sl_cons (s_var 0) (sl_cons (s_var 1) sl_nil)))) (ss_cons (s_set (s_biT (cr_list (by exact B.hc)) T.z_list (sl_cons (s_var 1) sl_nil)) B.nd) (ss_fby (fset 3 B.nd (pe_lst (pa_cons (pe_tup2 (pa_cons fstr0 (pa_cons (pe_lst pa_nil) pa_nil))) pa_nil))) (ps_for B.po B.hc (pi_str (fv 0)) (fgn 4 B.nd) (pss_one (ps_if (pt_cmpR op_eq (fv 4) fstr0 (nomark _)) (pss_one (ps_expr (pe_bm PySem.F.plainAttrs_list PySem.F.slot_list_append PySem.F.type_list_append mt_append (fv 3) (pa_cons (pe_tup2 (pa_cons (pe_bm PySem.F.plainAttrs_list PySem.F.slot_list_pop PySem.F.type_list_pop mt_popAt (fv 2) (pa_cons pe_int pa_nil)) (pa_cons (pe_lst pa_nil) pa_nil))) pa_nil)))) (pss_cons (ps_asg (pe_bm0 PySem.F.plainAttrs_list PySem.F.slot_list_pop PySem.F.type_list_pop mt_pop (fv 3)) (pg_tup B.hc (pgs_cons (fgn 5 B.nd) (pgs_cons (fgn 6 B.nd) pgs_nil)))) (pss_one (ps_expr (pe_bm PySem.F.plainAttrs_list PySem.F.slot_list_append PySem.F.type_list_append mt_append (pe_ix ix_tup (pe_ix ix_list (fv 3) (pe_un un_neg pe_int) fpx) pe_int fpx) (pa_cons (pe_tup2 (pa_cons (fv 5) (pa_cons (pe_callTy cr_tupL (by rfl) T.z_tuple (by rfl) (pa_cons (fv 6) pa_nil)) pa_nil))) pa_nil)))))))) (ps_ret (pe_callTy cr_tupL (by rfl) T.z_tuple (by rfl) (pa_cons (pe_ix ix_tup (pe_ix ix_list (fv 3) pe_int fpx) pe_int fpx) pa_nil)))))))
theorem sc_f_law_mix : FnScope ["cell", "k", "number"] ["cell", "k"] (defScope st_f_law_mix) := ⟨rfl, rfl, rfl, by decide +kernel, rfl, by decide +kernel, by decide +kernel⟩
theorem ok_f_law_mix {f : Addr} {fd : FuncData} {k : Nat} (T : Txt P w K mg base) (F : FD K mg "_law_mix" st_f_law_mix ["cell", "k"] f fd)   : FnOk P w K mg base (L2.CX P w) (k + 3) f fd ["cell", "k"] (spA K (rxC K) (wpF0 PP (k + 1) 3)) :=
  fn_ok (PP := PP) (L := k + 2) (d := f_law_mix) F.F sc_f_law_mix rfl rfl rfl rfl fun cdv A outer s H E B =>
    (ss_cons (s_set (s_bin .add (s_bin .mod (s_var 0) s_int) (s_bin .mul (s_bin .mul s_int (s_var 1)) (s_var 1))) B.nd) (ss_cons (s_set (s_bin .mod (s_bin .add (s_var 2) (s_bin .mul s_int (s_var 1))) s_int) B.nd) (ss_cons (s_set (s_bin .mod (s_bin .mul (s_var 2) (s_var 2)) s_int) B.nd) (ss_cons (s_ret (s_bin .fdiv (s_bin .mod (s_bin .mul (s_var 2) (s_bin .add (s_var 2) s_int)) s_int) s_int)) ss_nil))))
theorem sc_f_law_deck : FnScope ["script"] ["script"] (defScope st_f_law_deck) := ⟨rfl, rfl, rfl, by decide +kernel, rfl, by decide +kernel, by decide +kernel⟩
theorem ok_f_law_deck {f : Addr} {fd : FuncData} {k : Nat} (T : Txt P w K mg base) (F : FD K mg "_law_deck" st_f_law_deck ["script"] f fd)   : FnOk P w K mg base (L2.CX P w) (k + 3) f fd ["script"] (spA K (rxC K) (wpF0 PP (k + 1) 4)) :=
  fn_ok (PP := PP) (L := k + 2) (d := f_law_deck) F.F sc_f_law_deck rfl rfl rfl rfl fun cdv A outer s H E B =>
    (ss_cons (s_ret (s_lst (sa_cons (s_slc (s_var 0) s_no (s_so s_int)) (sa_cons s_int (sa_cons s_int (sa_cons s_int (sa_cons (s_bi (cr_sum (by exact B.hc)) T.z_sum (sl_cons (s_slc (s_var 0) s_no (s_so s_int)) sl_nil)) sa_nil))))))) ss_nil)
theorem sc_f_law_next : FnScope ["deck", "many", "cell", "found"] ["deck", "many"] (defScope st_f_law_next) := ⟨rfl, rfl, rfl, by decide +kernel, rfl, by decide +kernel, by decide +kernel⟩
theorem ok_f_law_next {f : Addr} {fd : FuncData} {k : Nat} (T : Txt P w K mg base) (F : FD K mg "_law_next" st_f_law_next ["deck", "many"] f fd)  (D__law_mix : Def P w K mg base (rxC K) (k + 2) (wpF0 PP k 3) "_law_mix") : FnOk P w K mg base (L2.CX P w) (k + 3) f fd ["deck", "many"] (spA K (rxC K) (wpF0 PP (k + 1) 5)) :=
  fn_ok (PP := PP) (L := k + 2) (d := f_law_next) F.F sc_f_law_next rfl rfl rfl rfl fun cdv A outer s H E B =>
    (ss_cons (s_if (PW.pt (s_andT (s_cmpT (by exact B.hu) .eq (s_idx (by exact B.hu) (s_var 0) s_int) s_int) (s_and1T (s_cmpT (by exact B.hu) .lt (s_idx (by exact B.hu) (s_var 0) s_int) (s_bi cr_len T.z_len (sl_cons (s_idx (by exact B.hu) (s_var 0) s_int) sl_nil)))))) (ss_cons (s_set (s_idx (by exact B.hu) (s_idx (by exact B.hu) (s_var 0) s_int) (s_idx (by exact B.hu) (s_var 0) s_int)) B.nd) (ss_cons (s_put (by exact B.hu) (s_bin .add (s_idx (by exact B.hu) (s_var 0) s_int) s_int) s_int) (ss_cons (s_if (s_cmpT (by exact B.hu) .lt (s_var 2) (s_bin .pow s_int s_int)) (ss_cons (s_ret (s_bin .mod (s_call (c := cx PP k) D__law_mix (by exact B.hr) B.tk (sl_cons (s_var 2) (sl_cons (s_idx (by exact B.hu) (s_var 0) s_int) sl_nil))) (s_var 1))) ss_nil) ss_nil) (ss_cons (s_put (by exact B.hu) (s_varK 2) s_int) ss_nil)))) ss_nil) (ss_cons (s_if (s_cmpT (by exact B.hu) .gt (s_idx (by exact B.hu) (s_var 0) s_int) s_int) (ss_cons (s_set (s_bin .mod (s_idx (by exact B.hu) (s_var 0) s_int) (s_var 1)) B.nd) (ss_cons (s_put (by exact B.hu) (s_bin .fdiv (s_idx (by exact B.hu) (s_var 0) s_int) (s_var 1)) s_int) (ss_cons (s_retV 3) ss_nil))) ss_nil) (ss_cons (s_put (by exact B.hu) (s_bin .add (s_idx (by exact B.hu) (s_var 0) s_int) s_int) s_int) (ss_cons (s_ret (s_bin .mod (s_call (c := cx PP k) D__law_mix (by exact B.hr) B.tk (sl_cons (s_idx (by exact B.hu) (s_var 0) s_int) (sl_cons (s_bin .add (s_idx (by exact B.hu) (s_var 0) s_int) s_int) sl_nil))) (s_var 1))) ss_nil))))
theorem sc_f_law_names : FnScope ["deck", "many", "letters", "way", "base", "at", "found", "k", "name", "turn", "j"] ["deck", "many"] (defScope st_f_law_names) := ⟨rfl, rfl, rfl, by decide +kernel, rfl, by decide +kernel, by decide +kernel⟩
theorem ok_f_law_names {f : Addr} {fd : FuncData} {k : Nat} (T : Txt P w K mg base) (F : FD K mg "_law_names" st_f_law_names ["deck", "many"] f fd)  (D__law_next : Def P w K mg base (rxC K) (k + 2) (wpF0 PP k 5) "_law_next") : FnOk P w K mg base (L2.CX P w) (k + 3) f fd ["deck", "many"] (spA K (rxC K) (wpF0 PP (k + 1) 6)) :=
  fn_ok (PP := PP) (L := k + 2) (d := f_law_names) F.F sc_f_law_names rfl rfl rfl rfl fun cdv A outer s H E B =>
    (ss_cons (s_set (s_str) B.nd) (ss_cons (s_set (s_call (c := cx PP k) D__law_next (by exact B.hr) B.tk (sl_cons (s_var 0) (sl_cons s_int sl_nil))) B.nd) (ss_cons (s_set (s_meth (m := .join) (by exact B.hu) (s_str) (sl_cons (s_lc (own := [("k", 7)]) (sg := [false, false, false, false, false, false, false, true, false, false, false]) (by exact B.hc) (by exact B.nd) (si_range1 T.z_range (sa_cons s_int sa_nil)) (blkOk_by (by rfl)) (fun _ _ _ _ _ => (sg_name (by exact B.nd))) (fun _ _ _ _ _ => st_nil) (fun _ _ _ _ _ => (s_idx (by exact B.hu) (s_var 2) (s_call (c := cx PP k) D__law_next (by exact B.hr) takes0 (sl_cons (s_var 0) (sl_cons s_int sl_nil)))))) sl_nil)) B.nd) (ss_cons (s_set (s_call (c := cx PP k) D__law_next (by exact B.hr) B.tk (sl_cons (s_var 0) (sl_cons s_int sl_nil))) B.nd) (ss_cons (s_set (s_lst sa_nil) B.nd) (ss_cons (s_for B.po B.hc (si_range1 T.z_range (sa_cons (s_varK 1) sa_nil)) (sg_name (by exact B.nd)) (ss_cons (s_set (s_meth (m := .join) (by exact B.hu) (s_str) (sl_cons (s_lc (own := [("j", 10)]) (sg := [false, false, false, false, false, false, false, false, false, false, true]) (by exact B.hc) (by exact B.nd) (si_range1 T.z_range (sa_cons (s_bin .add s_int (s_call (c := cx PP k) D__law_next (by exact B.hr) B.tk (sl_cons (s_var 0) (sl_cons s_int sl_nil)))) sa_nil)) (blkOk_by (by rfl)) (fun _ _ _ _ _ => (sg_name (by exact B.nd))) (fun _ _ _ _ _ => st_nil) (fun _ _ _ _ _ => (s_idx (by exact B.hu) (s_var 2) (s_call (c := cx PP k) D__law_next (by exact B.hr) takes0 (sl_cons (s_var 0) (sl_cons s_int sl_nil)))))) sl_nil)) B.nd) (ss_cons (s_if (s_cmpT (by exact B.hu) .eq (s_var 3) s_int) (ss_cons (s_set (s_bin .add (s_slc (s_var 4) s_no (s_so (s_varK 5))) (s_idx (by exact B.hu) (s_var 2) (s_bin .mod (s_bin .add (s_var 7) (s_var 5)) s_int))) B.nd) (ss_cons (s_set (s_bin .add (s_bin .add (s_var 8) (s_slc (s_var 4) (s_so (s_varK 5)) (s_so s_int))) (s_bin .mul (s_idx (by exact B.hu) (s_var 4) s_int) (s_bin .fdiv (s_var 7) s_int))) B.nd) ss_nil)) ss_nil) (ss_cons (s_if (PW.pt (s_andT (s_cmpT (by exact B.hu) .eq (s_var 3) s_int) (s_and1T (s_cmpT (by exact B.hu) .lt (s_var 7) s_int)))) (ss_cons (s_set (s_slc (s_var 4) s_no (s_so (s_bin .add (s_var 7) s_int))) B.nd) ss_nil) ss_nil) (ss_cons (s_set s_int B.nd) (ss_cons (s_while B.po (s_cmpT (by exact B.hu) .isin (s_var 8) (s_var 6)) (ss_cons (s_set (s_bin .add (s_bin .add (s_idx (by exact B.hu) (s_var 2) (s_bin .mod (s_var 9) s_int)) (s_idx (by exact B.hu) (s_var 2) (s_bin .fdiv (s_var 9) s_int))) (s_slc (s_var 4) s_no (s_so s_int))) B.nd) (ss_cons (s_set (s_bin .add (s_var 9) s_int) B.nd) ss_nil))) (ss_cons (s_ex (s_mut .append (sa_cons (s_varK 8) sa_nil))) ss_nil))))))) (ss_cons (s_ret (s_lc (own := [("k", 7)]) (sg := [false, false, false, false, false, false, false, true, false, false, false]) (by exact B.hc) (by exact B.nd) (si_range1 T.z_range (sa_cons (s_varK 1) sa_nil)) (blkOk_by (by rfl)) (fun _ _ _ _ _ => (sg_name (by exact B.nd))) (fun _ _ _ _ _ => st_nil) (fun _ _ _ _ _ => (s_mut .popAt (sa_cons (s_call (c := cx PP k) D__law_next (by exact B.hr) takes0 (sl_cons (s_var 0) (sl_cons (s_bi cr_len T.z_len (sl_cons (s_var 6) sl_nil)) sl_nil))) sa_nil))))) ss_nil)))))))
theorem sc_f_law_row : FnScope ["deck", "pairs", "way", "row", "opened", "left", "more"] ["deck", "pairs"] (defScope st_f_law_row) := ⟨rfl, rfl, rfl, by decide +kernel, rfl, by decide +kernel, by decide +kernel⟩
theorem ok_f_law_row {f : Addr} {fd : FuncData} {k : Nat} (T : Txt P w K mg base) (F : FD K mg "_law_row" st_f_law_row ["deck", "pairs"] f fd)  (D__law_next : Def P w K mg base (rxC K) (k + 2) (wpF0 PP k 5) "_law_next") : FnOk P w K mg base (L2.CX P w) (k + 3) f fd ["deck", "pairs"] (spA K (rxC K) (wpF0 PP (k + 1) 7)) :=
  fn_ok (PP := PP) (L := k + 2) (d := f_law_row) F.F sc_f_law_row rfl rfl rfl rfl fun cdv A outer s H E B =>
    (ss_cons (s_set (s_call (c := cx PP k) D__law_next (by exact B.hr) B.tk (sl_cons (s_var 0) (sl_cons s_int sl_nil))) B.nd) (ss_cons (s_set (s_str) B.nd) (ss_cons (s_set s_int B.nd) (ss_cons (s_for B.po B.hc (si_range3 T.z_range (sa_cons (s_bin .mul s_int (s_var 1)) (sa_cons s_int (sa_cons (s_neg s_int) sa_nil)))) (sg_name (by exact B.nd)) (ss_cons (s_set (s_idx (by exact B.hu) (s_lst (sa_cons (s_call (c := cx PP k) D__law_next (by exact B.hr) B.tk (sl_cons (s_var 0) (sl_cons s_int sl_nil))) (sa_cons s_int (sa_cons s_int (sa_cons (s_biT cr_int T.z_int (sl_cons (s_cmp (by exact B.hu) .gt (s_call (c := cx PP k) D__law_next (by exact B.hr) B.tk (sl_cons (s_var 0) (sl_cons s_int sl_nil))) s_int) sl_nil)) sa_nil))))) (s_var 2)) B.nd) (ss_cons (s_if (PW.pt (s_orT (s_cmpT (by exact B.hu) .eq (s_var 4) s_int) (s_or1T (PW.pt (s_andT (s_cmpT (by exact B.hu) .lt (s_var 4) (s_var 5)) (s_and1T (s_cmpT (by exact B.hu) .eq (s_var 6) s_int))))))) (ss_cons (s_set (s_bin .add (s_var 3) (s_str)) B.nd) (ss_cons (s_set (s_bin .add (s_var 4) s_int) B.nd) ss_nil)) (ss_cons (s_set (s_bin .add (s_var 3) (s_str)) B.nd) (ss_cons (s_set (s_bin .sub (s_var 4) s_int) B.nd) ss_nil))) ss_nil))) (ss_cons (s_retV 3) ss_nil)))))
theorem sc_f_law_pairs : FnScope ["deck", "most"] ["deck", "most"] (defScope st_f_law_pairs) := ⟨rfl, rfl, rfl, by decide +kernel, rfl, by decide +kernel, by decide +kernel⟩
theorem ok_f_law_pairs {f : Addr} {fd : FuncData} {k : Nat} (T : Txt P w K mg base) (F : FD K mg "_law_pairs" st_f_law_pairs ["deck", "most"] f fd)  (D__law_next : Def P w K mg base (rxC K) (k + 2) (wpF0 PP k 5) "_law_next") : FnOk P w K mg base (L2.CX P w) (k + 3) f fd ["deck", "most"] (spA K (rxC K) (wpF0 PP (k + 1) 8)) :=
  fn_ok (PP := PP) (L := k + 2) (d := f_law_pairs) F.F sc_f_law_pairs rfl rfl rfl rfl fun cdv A outer s H E B =>
    (ss_cons (s_ret (s_idx (by exact B.hu) (s_lst (sa_cons (s_call (c := cx PP k) D__law_next (by exact B.hr) B.tk (sl_cons (s_var 0) (sl_cons (s_bin .add (s_var 1) s_int) sl_nil))) (sa_cons (s_call (c := cx PP k) D__law_next (by exact B.hr) B.tk (sl_cons (s_var 0) (sl_cons s_int sl_nil))) (sa_cons (s_varK 1) sa_nil)))) (s_call (c := cx PP k) D__law_next (by exact B.hr) B.tk (sl_cons (s_var 0) (sl_cons s_int sl_nil))))) ss_nil)
theorem sc_f_law_forest : FnScope ["row", "names", "found", "left", "opened", "at", "held"] ["row", "names"] (defScope st_f_law_forest) := ⟨rfl, rfl, rfl, by decide +kernel, rfl, by decide +kernel, by decide +kernel⟩
theorem ok_f_law_forest {f : Addr} {fd : FuncData} {k : Nat} (T : Txt P w K mg base) (F : FD K mg "_law_forest" st_f_law_forest ["row", "names"] f fd)  (D__law_forest : Def P w K mg base (rxC K) (k + 2) (wpF0 PP k 9) "_law_forest") : FnOk P w K mg base (L2.CX P w) (k + 3) f fd ["row", "names"] (spA K (rxC K) (wpF0 PP (k + 1) 9)) :=
  fn_ok (PP := PP) (L := k + 2) (d := f_law_forest) F.F sc_f_law_forest rfl rfl rfl rfl fun cdv A outer s H E B =>
    (ss_cons (s_set (s_lst sa_nil) B.nd) (ss_cons (s_set (s_biT (cr_list (by exact B.hc)) T.z_list (sl_cons (s_var 1) sl_nil)) B.nd) (ss_cons (s_while B.po (s_cmpT (by exact B.hu) .ne (s_var 0) (s_str)) (ss_cons (s_set s_int B.nd) (ss_cons (s_set s_int B.nd) (ss_cons (s_while B.po (s_cmpT (by exact B.hu) .gt (s_var 4) s_int) (ss_cons (s_set (s_bin .add (s_var 4) (s_idx (by exact B.hu) (s_lst (sa_cons s_int (sa_cons (s_neg s_int) sa_nil))) (s_biT cr_int T.z_int (sl_cons (s_cmp (by exact B.hu) .eq (s_idx (by exact B.hu) (s_var 0) (s_var 5)) (s_str)) sl_nil)))) B.nd) (ss_cons (s_set (s_bin .add (s_var 5) s_int) B.nd) ss_nil))) (ss_cons (s_set (s_slc (s_var 0) (s_so s_int) (s_so (s_bin .sub (s_var 5) s_int))) B.nd) (ss_cons (s_ex (s_mut .append (sa_cons (s_tup (sa_cons (s_idx (by exact B.hu) (s_var 3) s_int) (sa_cons (s_call (c := cx PP k) D__law_forest (by exact B.hr) B.tk (sl_cons (s_var 6) (sl_cons (s_slc (s_var 3) (s_so s_int) (s_so (s_bin .add s_int (s_bin .fdiv (s_bi cr_len T.z_len (sl_cons (s_var 6) sl_nil)) s_int)))) sl_nil))) sa_nil))) sa_nil))) (ss_cons (s_set (s_slc (s_var 3) (s_so (s_bin .add s_int (s_bin .fdiv (s_bi cr_len T.z_len (sl_cons (s_var 6) sl_nil)) s_int))) s_no) B.nd) (ss_cons (s_set (s_slc (s_var 0) (s_so (s_varK 5)) s_no) B.nd) ss_nil)))))))) (ss_cons (s_ret (s_biT cr_tuple T.z_tuple (sl_cons (s_var 2) sl_nil))) ss_nil))))
theorem sc_f_law_wrong : FnScope ["row", "opened", "place", "sign"] ["row"] (defScope st_f_law_wrong) := ⟨rfl, rfl, rfl, by decide +kernel, rfl, by decide +kernel, by decide +kernel⟩
theorem ok_f_law_wrong {f : Addr} {fd : FuncData} {k : Nat} (T : Txt P w K mg base) (F : FD K mg "_law_wrong" st_f_law_wrong ["row"] f fd)   : FnOk P w K mg base (L2.CX P w) (k + 3) f fd ["row"] (spA K (rxC K) (wpF0 PP (k + 1) 10)) :=
  fn_ok (PP := PP) (L := k + 2) (d := f_law_wrong) F.F sc_f_law_wrong rfl rfl rfl rfl fun cdv A outer s H E B =>
    (ss_cons (s_set s_int B.nd) (ss_cons (s_for B.po B.hc (si_enum T.z_enumerate (s_var 0)) (sg_tup (by exact B.hc) (sgs_cons (sg_name (by exact B.nd)) (sgs_cons (sg_name (by exact B.nd)) sgs_nil))) (ss_cons (s_set (s_bin .add (s_var 1) (s_meth (m := .get) (by exact B.hu) (s_dsp (sp_cons (s_str) s_int (sp_cons (s_str) (s_neg s_int) sp_nil))) (sl_cons (s_var 3) (sl_cons (s_neg s_int) sl_nil)))) B.nd) (ss_cons (s_if (s_cmpT (by exact B.hu) .lt (s_var 1) s_int) (ss_cons (s_retV 2) ss_nil) ss_nil) ss_nil))) (ss_cons (s_if (s_cmpT (by exact B.hu) .gt (s_var 1) s_int) (ss_cons (s_ret (s_bi cr_len T.z_len (sl_cons (s_var 0) sl_nil))) ss_nil) ss_nil) (ss_cons (s_ret s_non) ss_nil))))
theorem sc_f_law_due : FnScope ["row", "names", "wrong", "k"] ["row", "names"] (defScope st_f_law_due) := ⟨rfl, rfl, rfl, by decide +kernel, rfl, by decide +kernel, by decide +kernel⟩
theorem ok_f_law_due {f : Addr} {fd : FuncData} {k : Nat} (T : Txt P w K mg base) (F : FD K mg "_law_due" st_f_law_due ["row", "names"] f fd)  (D__law_forest : Def P w K mg base (rxC K) (k + 2) (wpF0 PP k 9) "_law_forest") (D__law_wrong : Def P w K mg base (rxC K) (k + 2) (wpF0 PP k 10) "_law_wrong") : FnOk P w K mg base (L2.CX P w) (k + 3) f fd ["row", "names"] (spA K (rxC K) (wpF0 PP (k + 1) 11)) :=
  fn_ok (PP := PP) (L := k + 2) (d := f_law_due) F.F sc_f_law_due rfl rfl rfl rfl fun cdv A outer s H E B =>
    (ss_cons (s_set (s_call (c := cx PP k) D__law_wrong (by exact B.hr) B.tk (sl_cons (s_var 0) sl_nil)) B.nd) (ss_cons (s_if (s_cmpT (by exact B.hu) .notnon (s_var 2) s_non) (ss_cons (s_ret (s_tup (sa_cons (s_str) (sa_cons (s_varK 2) sa_nil)))) ss_nil) ss_nil) (ss_cons (s_for B.po B.hc (si_range1 T.z_range (sa_cons (s_bi cr_len T.z_len (sl_cons (s_var 1) sl_nil)) sa_nil)) (sg_name (by exact B.nd)) (ss_cons (s_if (s_cmpT (by exact B.hu) .isin (s_idx (by exact B.hu) (s_var 1) (s_var 3)) (s_slc (s_var 1) s_no (s_so (s_varK 3)))) (ss_cons (s_ret (s_tup (sa_cons (s_str) (sa_cons (s_idx (by exact B.hu) (s_var 1) (s_var 3)) sa_nil)))) ss_nil) ss_nil) ss_nil)) (ss_cons (s_if (s_cmpT (by exact B.hu) .ne (s_bin .mul s_int (s_bi cr_len T.z_len (sl_cons (s_var 1) sl_nil))) (s_bi cr_len T.z_len (sl_cons (s_var 0) sl_nil))) (ss_cons (s_ret (s_tup (sa_cons (s_str) (sa_cons s_int sa_nil)))) ss_nil) ss_nil) (ss_cons (s_ret (s_tup (sa_cons (s_str) (sa_cons (s_call (c := cx PP k) D__law_forest (by exact B.hr) B.tk (sl_cons (s_var 0) (sl_cons (s_var 1) sl_nil))) sa_nil)))) ss_nil)))))
theorem sc_f_law_told : FnScope ["row", "names", "found", "caught", "e", "kinds"] ["row", "names"] (defScope st_f_law_told) := ⟨rfl, rfl, rfl, by decide +kernel, rfl, by decide +kernel, by decide +kernel⟩
theorem ok_f_law_told {f : Addr} {fd : FuncData} {k : Nat} (T : Txt P w K mg base) (F : FD K mg "_law_told" st_f_law_told ["row", "names"] f fd)  (D_forest_by : Def P w K mg base (rxC K) (k + 2) (wpF0 PP k 2) "forest_by") : FnOk P w K mg base (L2.CX P w) (k + 3) f fd ["row", "names"] (spA K (rxC K) (wpF0 PP (k + 1) 12)) :=
  fn_ok (PP := PP) (L := k + 2) (d := f_law_told) F.F sc_f_law_told rfl rfl rfl rfl fun cdv A outer s H E B =>
    (ss_cons (s_set s_non B.nd) (ss_cons (s_set s_non B.nd) (ss_cons (s_try B T.E 0 4 3 (by decide) T.m0 (fun e => (T.hs e 0).symm) (fun W1 pn xe tk po => (fun B => (ss_cons (s_set (s_call (c := cx PP k) D_forest_by (by exact B.hr) B.tk (sl_cons (s_var 0) (sl_cons (s_var 1) sl_nil))) B.nd) ss_nil)) (Bd.tr B tk po))) (ss_cons (s_if (s_cmpT (by exact B.hu) .isnon (s_var 3) s_non) (ss_cons (s_ret (s_tup (sa_cons (s_str) (sa_cons (s_varK 2) sa_nil)))) ss_nil) ss_nil) (ss_cons (s_set (s_lst (sa_cons (s_isE T.E 1 (by decide) (fun e d => (T.hs e d).symm) (s_var 3) (pe_glob (by rfl) T.m1 (clV_rel 1)) T.z_isinstance) (sa_cons (s_isE T.E 2 (by decide) (fun e d => (T.hs e d).symm) (s_var 3) (pe_glob (by rfl) T.m2 (clV_rel 2)) T.z_isinstance) (sa_cons (s_isE T.E 4 (by decide) (fun e d => (T.hs e d).symm) (s_var 3) (pe_glob (by rfl) T.m4 (clV_rel 4)) T.z_isinstance) sa_nil)))) B.nd) (ss_cons (s_if (PW.pt (s_orT (s_notT (s_tru (s_isE T.E 6 (by decide) (fun e d => (T.hs e d).symm) (s_var 3) (pe_bltn (by rfl) T.z_ValueError (by rfl) (clV_rel 6)) T.z_isinstance))) (s_orT (s_tru (s_isET T.E [5, 3] (by rfl) (by decide) (fun e d => (T.hs e d).symm) (s_var 3) (pa_cons (pe_glob (by rfl) T.m5 (clV_rel 5)) (pa_cons (pe_glob (by rfl) T.m3 (clV_rel 3)) pa_nil)) T.z_isinstance)) (s_or1T (s_cmpT (by exact B.hu) .ne (s_meth (m := .count) (by exact B.hu) (s_var 5) (sl_cons s_bl sl_nil)) s_int))))) (ss_cons (s_ret (s_tup (sa_cons (s_str) (sa_cons s_int sa_nil)))) ss_nil) ss_nil) (ss_cons (s_if (s_tru (s_idx (by exact B.hu) (s_var 5) s_int)) (ss_cons (s_ret (s_tup (sa_cons (s_str) (sa_cons (s_fld T.E 1 T.f1 (s_varK 3)) sa_nil)))) ss_nil) ss_nil) (ss_cons (s_if (s_tru (s_idx (by exact B.hu) (s_var 5) s_int)) (ss_cons (s_ret (s_tup (sa_cons (s_str) (sa_cons (s_fld T.E 2 T.f2 (s_varK 3)) sa_nil)))) ss_nil) ss_nil) (ss_cons (s_ret (s_tup (sa_cons (s_str) (sa_cons s_int sa_nil)))) ss_nil)))))))))
theorem sc_f_law_same : FnScope ["found", "due", "one", "other"] ["found", "due"] (defScope st_f_law_same) := ⟨rfl, rfl, rfl, by decide +kernel, rfl, by decide +kernel, by decide +kernel⟩
theorem ok_f_law_same {f : Addr} {fd : FuncData} {k : Nat} (T : Txt P w K mg base) (F : FD K mg "_law_same" st_f_law_same ["found", "due"] f fd)  (D__law_same : Def P w K mg base (rxC K) (k + 2) (wpF0 PP k 13) "_law_same") : FnOk P w K mg base (L2.CX P w) (k + 3) f fd ["found", "due"] (spA K (rxC K) (wpF0 PP (k + 1) 13)) :=
  fn_ok (PP := PP) (L := k + 2) (d := f_law_same) F.F sc_f_law_same rfl rfl rfl rfl fun cdv A outer s H E B =>
    (ss_cons (s_if (s_tru (s_isi .tuple (s_var 1) T.z_isinstance T.z_tuple)) (ss_cons (s_if (PW.pt (s_orT (s_notT (s_tru (s_isi .tuple (s_var 0) T.z_isinstance T.z_tuple))) (s_or1T (s_cmpT (by exact B.hu) .ne (s_bi cr_len T.z_len (sl_cons (s_var 0) sl_nil)) (s_bi cr_len T.z_len (sl_cons (s_var 1) sl_nil)))))) (ss_cons (s_ret s_bl) ss_nil) ss_nil) (ss_cons (s_ret (s_cmp (by exact B.hu) .eq (s_lc (own := [("one", 2), ("other", 3)]) (sg := [false, false, true, true]) (by exact B.hc) (by exact B.nd) (si_zip T.z_zip (s_var 0) (s_var 1)) (blkOk_by (by rfl)) (fun _ _ _ _ _ => (sg_tup (by exact B.hc) (sgs_cons (sg_name (by exact B.nd)) (sgs_cons (sg_name (by exact B.nd)) sgs_nil)))) (fun _ _ _ _ _ => (st_one (s_notT (s_tru (s_call (c := cx PP k) D__law_same (by exact B.hr) takes0 (sl_cons (s_var 2) (sl_cons (s_var 3) sl_nil))))))) (fun _ _ _ _ _ => s_int)) (s_lst sa_nil))) ss_nil)) ss_nil) (ss_cons (s_if (s_tru (s_isi .str (s_var 1) T.z_isinstance T.z_str)) (ss_cons (s_ret (s_and (s_isi .str (s_var 0) T.z_isinstance T.z_str) (s_one (s_cmp (by exact B.hu) .eq (s_var 0) (s_var 1))))) ss_nil) ss_nil) (ss_cons (s_ret (s_and (s_isi .int (s_var 0) T.z_isinstance T.z_int) (s_and (s_not (s_isi .bool (s_var 0) T.z_isinstance T.z_bool)) (s_one (s_cmp (by exact B.hu) .eq (s_var 0) (s_var 1)))))) ss_nil)))
theorem sc_f_law_spoilt_row : FnScope ["deck", "row", "signs", "at", "sign", "way", "other"] ["deck", "row"] (defScope st_f_law_spoilt_row) := ⟨rfl, rfl, rfl, by decide +kernel, rfl, by decide +kernel, by decide +kernel⟩
theorem ok_f_law_spoilt_row {f : Addr} {fd : FuncData} {k : Nat} (T : Txt P w K mg base) (F : FD K mg "_law_spoilt_row" st_f_law_spoilt_row ["deck", "row"] f fd)  (D__law_next : Def P w K mg base (rxC K) (k + 2) (wpF0 PP k 5) "_law_next") : FnOk P w K mg base (L2.CX P w) (k + 3) f fd ["deck", "row"] (spA K (rxC K) (wpF0 PP (k + 1) 14)) :=
  fn_ok (PP := PP) (L := k + 2) (d := f_law_spoilt_row) F.F sc_f_law_spoilt_row rfl rfl rfl rfl fun cdv A outer s H E B =>
    (ss_cons (s_set (s_str) B.nd) (ss_cons (s_set (s_bi (cr_min2 (by exact B.hc)) T.z_min (sl_cons s_int (sl_cons (s_idx (by exact B.hu) (s_lst (sa_cons (s_call (c := cx PP k) D__law_next (by exact B.hr) B.tk (sl_cons (s_var 0) (sl_cons (s_bin .add (s_bi cr_len T.z_len (sl_cons (s_var 1) sl_nil)) s_int) sl_nil))) (sa_cons (s_bin .sub (s_bi cr_len T.z_len (sl_cons (s_var 1) sl_nil)) s_int) (sa_cons s_int sa_nil)))) (s_bi (cr_max2 (by exact B.hc)) T.z_max (sl_cons s_int (sl_cons (s_bin .sub (s_call (c := cx PP k) D__law_next (by exact B.hr) B.tk (sl_cons (s_var 0) (sl_cons s_int sl_nil))) s_int) sl_nil)))) sl_nil))) B.nd) (ss_cons (s_set (s_idx (by exact B.hu) (s_lst (sa_cons (s_str) (sa_cons (s_str) (sa_cons (s_idx (by exact B.hu) (s_var 2) (s_call (c := cx PP k) D__law_next (by exact B.hr) B.tk (sl_cons (s_var 0) (sl_cons (s_bi cr_len T.z_len (sl_cons (s_var 2) sl_nil)) sl_nil)))) sa_nil)))) (s_call (c := cx PP k) D__law_next (by exact B.hr) B.tk (sl_cons (s_var 0) (sl_cons s_int sl_nil)))) B.nd) (ss_cons (s_set (s_call (c := cx PP k) D__law_next (by exact B.hr) B.tk (sl_cons (s_var 0) (sl_cons s_int sl_nil))) B.nd) (ss_cons (s_if (PW.pt (s_andT (s_cmpT (by exact B.hu) .eq (s_var 5) s_int) (s_and1T (s_cmpT (by exact B.hu) .ge (s_var 3) s_int)))) (ss_cons (s_ret (s_bin .add (s_bin .add (s_slc (s_var 1) s_no (s_so (s_varK 3))) (s_var 4)) (s_slc (s_var 1) (s_so (s_bin .add (s_var 3) s_int)) s_no))) ss_nil) ss_nil) (ss_cons (s_if (PW.pt (s_andT (s_cmpT (by exact B.hu) .eq (s_var 5) s_int) (s_andT (s_cmpT (by exact B.hu) .lt (s_bi cr_len T.z_len (sl_cons (s_var 1) sl_nil)) s_int) (s_and1T (s_cmpT (by exact B.hu) .ge (s_var 3) s_int))))) (ss_cons (s_ret (s_bin .add (s_bin .add (s_slc (s_var 1) s_no (s_so (s_varK 3))) (s_var 4)) (s_slc (s_var 1) (s_so (s_varK 3)) s_no))) ss_nil) ss_nil) (ss_cons (s_if (PW.pt (s_andT (s_cmpT (by exact B.hu) .eq (s_var 5) s_int) (s_and1T (s_cmpT (by exact B.hu) .ge (s_var 3) s_int)))) (ss_cons (s_ret (s_bin .add (s_slc (s_var 1) s_no (s_so (s_varK 3))) (s_slc (s_var 1) (s_so (s_bin .add (s_var 3) s_int)) s_no))) ss_nil) ss_nil) (ss_cons (s_if (s_cmpT (by exact B.hu) .eq (s_var 5) s_int) (ss_cons (s_ret (s_rev (by exact B.hu) (s_var 1))) ss_nil) ss_nil) (ss_cons (s_set (s_call (c := cx PP k) D__law_next (by exact B.hr) B.tk (sl_cons (s_var 0) (sl_cons (s_bin .add (s_bi cr_len T.z_len (sl_cons (s_var 1) sl_nil)) s_int) sl_nil))) B.nd) (ss_cons (s_ret (s_bin .add (s_rev (by exact B.hu) (s_slc (s_var 1) s_no (s_so (s_varK 6)))) (s_slc (s_var 1) (s_so (s_varK 6)) s_no))) ss_nil))))))))))
theorem sc_f_law_spoilt_names : FnScope ["deck", "names", "found", "way", "k"] ["deck", "names"] (defScope st_f_law_spoilt_names) := ⟨rfl, rfl, rfl, by decide +kernel, rfl, by decide +kernel, by decide +kernel⟩
theorem ok_f_law_spoilt_names {f : Addr} {fd : FuncData} {k : Nat} (T : Txt P w K mg base) (F : FD K mg "_law_spoilt_names" st_f_law_spoilt_names ["deck", "names"] f fd)  (D__law_next : Def P w K mg base (rxC K) (k + 2) (wpF0 PP k 5) "_law_next") : FnOk P w K mg base (L2.CX P w) (k + 3) f fd ["deck", "names"] (spA K (rxC K) (wpF0 PP (k + 1) 15)) :=
  fn_ok (PP := PP) (L := k + 2) (d := f_law_spoilt_names) F.F sc_f_law_spoilt_names rfl rfl rfl rfl fun cdv A outer s H E B =>
    (ss_cons (s_set (s_biT (cr_list (by exact B.hc)) T.z_list (sl_cons (s_var 1) sl_nil)) B.nd) (ss_cons (s_set (s_call (c := cx PP k) D__law_next (by exact B.hr) B.tk (sl_cons (s_var 0) (sl_cons s_int sl_nil))) B.nd) (ss_cons (s_if (PW.pt (s_andT (s_cmpT (by exact B.hu) .lt (s_var 3) s_int) (s_and1T (s_cmpT (by exact B.hu) .ne (s_var 2) (s_lst sa_nil))))) (ss_cons (s_for B.po B.hc (si_range1 T.z_range (sa_cons (s_bin .add s_int (s_bin .fdiv (s_var 3) s_int)) sa_nil)) (sg_name (by exact B.nd)) (ss_cons (s_put (by exact B.hu) (s_idx (by exact B.hu) (s_var 2) (s_call (c := cx PP k) D__law_next (by exact B.hr) B.tk (sl_cons (s_var 0) (sl_cons (s_bi cr_len T.z_len (sl_cons (s_var 2) sl_nil)) sl_nil)))) (s_call (c := cx PP k) D__law_next (by exact B.hr) B.tk (sl_cons (s_var 0) (sl_cons (s_bi cr_len T.z_len (sl_cons (s_var 2) sl_nil)) sl_nil)))) ss_nil)) ss_nil) ss_nil) (ss_cons (s_if (PW.pt (s_andT (s_cmpT (by exact B.hu) .eq (s_var 3) s_int) (s_and1T (s_chainT (by exact B.hu) .lt .lt s_int (s_bi cr_len T.z_len (sl_cons (s_var 2) sl_nil)) s_int)))) (ss_cons (s_ex (s_mut .insert (sa_cons (s_call (c := cx PP k) D__law_next (by exact B.hr) B.tk (sl_cons (s_var 0) (sl_cons (s_bin .add (s_bi cr_len T.z_len (sl_cons (s_var 2) sl_nil)) s_int) sl_nil))) (sa_cons (s_idx (by exact B.hu) (s_var 2) (s_call (c := cx PP k) D__law_next (by exact B.hr) B.tk (sl_cons (s_var 0) (sl_cons (s_bi cr_len T.z_len (sl_cons (s_var 2) sl_nil)) sl_nil)))) sa_nil)))) ss_nil) ss_nil) (ss_cons (s_if (s_cmpT (by exact B.hu) .eq (s_var 3) s_int) (ss_cons (s_set (s_slc (s_var 2) s_no (s_so (s_call (c := cx PP k) D__law_next (by exact B.hr) B.tk (sl_cons (s_var 0) (sl_cons (s_bin .add (s_bi cr_len T.z_len (sl_cons (s_var 2) sl_nil)) s_int) sl_nil))))) B.nd) ss_nil) ss_nil) (ss_cons (s_if (PW.pt (s_andT (s_cmpT (by exact B.hu) .eq (s_var 3) s_int) (s_and1T (s_cmpT (by exact B.hu) .lt (s_bi cr_len T.z_len (sl_cons (s_var 2) sl_nil)) s_int)))) (ss_cons (s_ex (s_mut .append (sa_cons (s_str) sa_nil))) ss_nil) ss_nil) (ss_cons (s_ret (s_biT cr_tuple T.z_tuple (sl_cons (s_var 2) sl_nil))) ss_nil)))))))
theorem sc_f_law : FnScope ["script", "deck", "turn", "row", "names", "other", "one", "some"] ["script"] (defScope st_f_law) := ⟨rfl, rfl, rfl, by decide +kernel, rfl, by decide +kernel, by decide +kernel⟩
theorem ok_f_law {f : Addr} {fd : FuncData} {k : Nat} (T : Txt P w K mg base) (F : FD K mg "law" st_f_law ["script"] f fd)  (D_forest_by : Def P w K mg base (rxC K) (k + 2) (wpF0 PP k 2) "forest_by") (D__law_deck : Def P w K mg base (rxC K) (k + 2) (wpF0 PP k 4) "_law_deck") (D__law_next : Def P w K mg base (rxC K) (k + 2) (wpF0 PP k 5) "_law_next") (D__law_names : Def P w K mg base (rxC K) (k + 2) (wpF0 PP k 6) "_law_names") (D__law_row : Def P w K mg base (rxC K) (k + 2) (wpF0 PP k 7) "_law_row") (D__law_pairs : Def P w K mg base (rxC K) (k + 2) (wpF0 PP k 8) "_law_pairs") (D__law_due : Def P w K mg base (rxC K) (k + 2) (wpF0 PP k 11) "_law_due") (D__law_told : Def P w K mg base (rxC K) (k + 2) (wpF0 PP k 12) "_law_told") (D__law_same : Def P w K mg base (rxC K) (k + 2) (wpF0 PP k 13) "_law_same") (D__law_spoilt_row : Def P w K mg base (rxC K) (k + 2) (wpF0 PP k 14) "_law_spoilt_row") (D__law_spoilt_names : Def P w K mg base (rxC K) (k + 2) (wpF0 PP k 15) "_law_spoilt_names") : FnOk P w K mg base (L2.CX P w) (k + 3) f fd ["script"] (spA K (rxC K) (wpF0 PP (k + 1) 16)) :=
  fn_ok (PP := PP) (L := k + 2) (d := f_law) F.F sc_f_law rfl rfl rfl rfl fun cdv A outer s H E B =>
    (ss_cons (s_set (s_call (c := cx PP k) D__law_deck (by exact B.hr) B.tk (sl_cons (s_var 0) sl_nil)) B.nd) (ss_cons (s_for B.po B.hc (si_range1 T.z_range (sa_cons s_int sa_nil)) (sg_name (by exact B.nd)) (ss_cons (s_set (s_call (c := cx PP k) D__law_row (by exact B.hr) B.tk (sl_cons (s_var 1) (sl_cons (s_call (c := cx PP k) D__law_pairs (by exact B.hr) B.tk (sl_cons (s_var 1) (sl_cons (s_idx (by exact B.hu) (s_lst (sa_cons s_int (sa_cons s_int (sa_cons s_int sa_nil)))) (s_call (c := cx PP k) D__law_next (by exact B.hr) B.tk (sl_cons (s_var 1) (sl_cons s_int sl_nil)))) sl_nil))) sl_nil))) B.nd) (ss_cons (s_set (s_biT cr_tuple T.z_tuple (sl_cons (s_call (c := cx PP k) D__law_names (by exact B.hr) B.tk (sl_cons (s_var 1) (sl_cons (s_bin .fdiv (s_bi cr_len T.z_len (sl_cons (s_var 3) sl_nil)) s_int) sl_nil))) sl_nil)) B.nd) (ss_cons (s_set (s_call (c := cx PP k) D__law_spoilt_row (by exact B.hr) B.tk (sl_cons (s_var 1) (sl_cons (s_var 3) sl_nil))) B.nd) (ss_cons (s_if (s_cmpT (by exact B.hu) .eq (s_call (c := cx PP k) D__law_next (by exact B.hr) B.tk (sl_cons (s_var 1) (sl_cons s_int sl_nil))) s_int) (ss_cons (s_set (s_call (c := cx PP k) D__law_spoilt_row (by exact B.hr) B.tk (sl_cons (s_var 1) (sl_cons (s_slc (s_var 5) s_no (s_so s_int)) sl_nil))) B.nd) ss_nil) ss_nil) (ss_cons (s_for B.po B.hc (si_seq (s_lst (sa_cons (s_varK 3) (sa_cons (s_varK 5) sa_nil)))) (sg_name (by exact B.nd)) (ss_cons (s_for B.po B.hc (si_seq (s_lst (sa_cons (s_varK 4) (sa_cons (s_call (c := cx PP k) D__law_spoilt_names (by exact B.hr) B.tk (sl_cons (s_var 1) (sl_cons (s_var 4) sl_nil))) (sa_cons (s_varK 4) sa_nil))))) (sg_name (by exact B.nd)) (ss_cons (s_if (s_notT (s_tru (s_call (c := cx PP k) D__law_same (by exact B.hr) B.tk (sl_cons (s_call (c := cx PP k) D__law_told (by exact B.hr) B.tk (sl_cons (s_var 6) (sl_cons (s_var 7) sl_nil))) (sl_cons (s_call (c := cx PP k) D__law_due (by exact B.hr) B.tk (sl_cons (s_var 6) (sl_cons (s_var 7) sl_nil))) sl_nil))))) (ss_cons (s_ret s_bl) ss_nil) ss_nil) ss_nil)) ss_nil)) ss_nil)))))) (ss_cons (s_ret (s_and (s_cmp (by exact B.hu) .eq (s_call (c := cx PP k) D__law_told (by exact B.hr) B.tk (sl_cons (s_str) (sl_cons (s_tup sa_nil) sl_nil))) (s_tup (sa_cons (s_str) (sa_cons s_int sa_nil)))) (s_and (s_cmp (by exact B.hu) .eq (s_call (c := cx PP k) D__law_told (by exact B.hr) B.tk (sl_cons (s_str) (sl_cons (s_tup (sa_cons (s_str) (sa_cons (s_str) sa_nil))) sl_nil))) (s_tup (sa_cons (s_str) (sa_cons s_int sa_nil)))) (s_one (s_cmp (by exact B.hu) .eq (s_call (c := cx PP k) D_forest_by (by exact B.hr) B.tk (sl_cons (s_str) (sl_cons (s_tup sa_nil) sl_nil))) (s_tup sa_nil)))))) ss_nil)))
theorem all_ok (T : Txt P w K mg base) {f0 : Addr} {d0 : FuncData} {f1 : Addr} {d1 : FuncData} {f2 : Addr} {d2 : FuncData} {f3 : Addr} {d3 : FuncData} {f4 : Addr} {d4 : FuncData} {f5 : Addr} {d5 : FuncData} {f6 : Addr} {d6 : FuncData} {f7 : Addr} {d7 : FuncData} {f8 : Addr} {d8 : FuncData} {f9 : Addr} {d9 : FuncData} {f10 : Addr} {d10 : FuncData} {f11 : Addr} {d11 : FuncData} {f12 : Addr} {d12 : FuncData} {f13 : Addr} {d13 : FuncData} {f14 : Addr} {d14 : FuncData} {f15 : Addr} {d15 : FuncData} {f16 : Addr} {d16 : FuncData} (F0 : FD K mg "need_row" st_f_need_row ["row"] f0 d0) (F1 : FD K mg "need_names" st_f_need_names ["row", "names"] f1 d1) (F2 : FD K mg "forest_by" st_f_forest_by ["row", "names"] f2 d2) (F3 : FD K mg "_law_mix" st_f_law_mix ["cell", "k"] f3 d3) (F4 : FD K mg "_law_deck" st_f_law_deck ["script"] f4 d4) (F5 : FD K mg "_law_next" st_f_law_next ["deck", "many"] f5 d5) (F6 : FD K mg "_law_names" st_f_law_names ["deck", "many"] f6 d6) (F7 : FD K mg "_law_row" st_f_law_row ["deck", "pairs"] f7 d7) (F8 : FD K mg "_law_pairs" st_f_law_pairs ["deck", "most"] f8 d8) (F9 : FD K mg "_law_forest" st_f_law_forest ["row", "names"] f9 d9) (F10 : FD K mg "_law_wrong" st_f_law_wrong ["row"] f10 d10) (F11 : FD K mg "_law_due" st_f_law_due ["row", "names"] f11 d11) (F12 : FD K mg "_law_told" st_f_law_told ["row", "names"] f12 d12) (F13 : FD K mg "_law_same" st_f_law_same ["found", "due"] f13 d13) (F14 : FD K mg "_law_spoilt_row" st_f_law_spoilt_row ["deck", "row"] f14 d14) (F15 : FD K mg "_law_spoilt_names" st_f_law_spoilt_names ["deck", "names"] f15 d15) (F16 : FD K mg "law" st_f_law ["script"] f16 d16) : ∀ k, FnOk P w K mg base (L2.CX P w) (k + 2) f0 d0 ["row"] (spA K (rxC K) (wpF0 PP k 0)) ∧ FnOk P w K mg base (L2.CX P w) (k + 2) f1 d1 ["row", "names"] (spA K (rxC K) (wpF0 PP k 1)) ∧ FnOk P w K mg base (L2.CX P w) (k + 2) f2 d2 ["row", "names"] (spA K (rxC K) (wpF0 PP k 2)) ∧ FnOk P w K mg base (L2.CX P w) (k + 2) f3 d3 ["cell", "k"] (spA K (rxC K) (wpF0 PP k 3)) ∧ FnOk P w K mg base (L2.CX P w) (k + 2) f4 d4 ["script"] (spA K (rxC K) (wpF0 PP k 4)) ∧ FnOk P w K mg base (L2.CX P w) (k + 2) f5 d5 ["deck", "many"] (spA K (rxC K) (wpF0 PP k 5)) ∧ FnOk P w K mg base (L2.CX P w) (k + 2) f6 d6 ["deck", "many"] (spA K (rxC K) (wpF0 PP k 6)) ∧ FnOk P w K mg base (L2.CX P w) (k + 2) f7 d7 ["deck", "pairs"] (spA K (rxC K) (wpF0 PP k 7)) ∧ FnOk P w K mg base (L2.CX P w) (k + 2) f8 d8 ["deck", "most"] (spA K (rxC K) (wpF0 PP k 8)) ∧ FnOk P w K mg base (L2.CX P w) (k + 2) f9 d9 ["row", "names"] (spA K (rxC K) (wpF0 PP k 9)) ∧ FnOk P w K mg base (L2.CX P w) (k + 2) f10 d10 ["row"] (spA K (rxC K) (wpF0 PP k 10)) ∧ FnOk P w K mg base (L2.CX P w) (k + 2) f11 d11 ["row", "names"] (spA K (rxC K) (wpF0 PP k 11)) ∧ FnOk P w K mg base (L2.CX P w) (k + 2) f12 d12 ["row", "names"] (spA K (rxC K) (wpF0 PP k 12)) ∧ FnOk P w K mg base (L2.CX P w) (k + 2) f13 d13 ["found", "due"] (spA K (rxC K) (wpF0 PP k 13)) ∧ FnOk P w K mg base (L2.CX P w) (k + 2) f14 d14 ["deck", "row"] (spA K (rxC K) (wpF0 PP k 14)) ∧ FnOk P w K mg base (L2.CX P w) (k + 2) f15 d15 ["deck", "names"] (spA K (rxC K) (wpF0 PP k 15)) ∧ FnOk P w K mg base (L2.CX P w) (k + 2) f16 d16 ["script"] (spA K (rxC K) (wpF0 PP k 16))
  | 0 => ⟨fn_ok0, fn_ok0, fn_ok0, fn_ok0, fn_ok0, fn_ok0, fn_ok0, fn_ok0, fn_ok0, fn_ok0, fn_ok0, fn_ok0, fn_ok0, fn_ok0, fn_ok0, fn_ok0, fn_ok0⟩
  | k + 1 => by
    obtain ⟨h0, h1, h2, h3, h4, h5, h6, h7, h8, h9, h10, h11, h12, h13, h14, h15, h16⟩ := all_ok T F0 F1 F2 F3 F4 F5 F6 F7 F8 F9 F10 F11 F12 F13 F14 F15 F16 k
    exact ⟨ok_f_need_row T F0  , ok_f_need_names T F1  , ok_f_forest_by T F2  (F0.d h0) (F1.d h1), ok_f_law_mix T F3  , ok_f_law_deck T F4  , ok_f_law_next T F5  (F3.d h3), ok_f_law_names T F6  (F5.d h5), ok_f_law_row T F7  (F5.d h5), ok_f_law_pairs T F8  (F5.d h5), ok_f_law_forest T F9  (F9.d h9), ok_f_law_wrong T F10  , ok_f_law_due T F11  (F9.d h9) (F10.d h10), ok_f_law_told T F12  (F2.d h2), ok_f_law_same T F13  (F13.d h13), ok_f_law_spoilt_row T F14  (F5.d h5), ok_f_law_spoilt_names T F15  (F5.d h5), ok_f_law T F16  (F2.d h2) (F4.d h4) (F5.d h5) (F6.d h6) (F7.d h7) (F8.d h8) (F11.d h11) (F12.d h12) (F13.d h13) (F14.d h14) (F15.d h15)⟩
end
theorem all_mk {l : PySem.W.OpenLaw} {w : World} {K : PySem.W.Frag} {h : Heap} {mg : Str → Option Value} {fa f0 f1 f2 f3 f4 f5 f6 f7 f8 f9 f10 f11 f12 f13 f14 f15 f16 : Addr} (KX : K.In h) (G : h.Ns mainGlobals mg) (hfa : mg "law" = some (.ref fa)) {n k : Nat}
    {od0 an0 od1 an1 od2 an2 od3 an3 od4 an4 od5 an5 od6 an6 od7 an7 od8 an8 od9 an9 od10 an10 od11 an11 od12 an12 od13 an13 od14 an14 od15 an15 od16 an16 : Option Addr} {sl0 sl1 sl2 sl3 sl4 sl5 sl6 sl7 sl8 sl9 sl10 sl11 sl12 sl13 sl14 sl15 sl16 : Array (Option Value)} {oc0 kV0 dc0 pm0 cd0 ct0 oc1 kV1 dc1 pm1 cd1 ct1 oc2 kV2 dc2 pm2 cd2 ct2 oc3 kV3 dc3 pm3 cd3 ct3 oc4 kV4 dc4 pm4 cd4 ct4 oc5 kV5 dc5 pm5 cd5 ct5 oc6 kV6 dc6 pm6 cd6 ct6 oc7 kV7 dc7 pm7 cd7 ct7 oc8 kV8 dc8 pm8 cd8 ct8 oc9 kV9 dc9 pm9 cd9 ct9 oc10 kV10 dc10 pm10 cd10 ct10 oc11 kV11 dc11 pm11 cd11 ct11 oc12 kV12 dc12 pm12 cd12 ct12 oc13 kV13 dc13 pm13 cd13 ct13 oc14 kV14 dc14 pm14 cd14 ct14 oc15 kV15 dc15 pm15 cd15 ct15 oc16 kV16 dc16 pm16 cd16 ct16 : Value}
    (a0 : PySem.W.nsIn K mainGlobals "need_row" = some (some (.ref f0)))
    (l0 : K.lookup f0 = some ⟨oc0, od0, .func (PySem.W.fnOf "need_row" "need_row" (defArgs st_f_need_row) (defBody st_f_need_row) (defScope st_f_need_row) .none kV0 dc0 pm0 an0 cd0 ct0), sl0⟩) (c0 : PySem.W.codeIn K cd0 "need_row" = true) (k0 : PySem.W.keepIn K (.ref f0) = true)
    (a1 : PySem.W.nsIn K mainGlobals "need_names" = some (some (.ref f1)))
    (l1 : K.lookup f1 = some ⟨oc1, od1, .func (PySem.W.fnOf "need_names" "need_names" (defArgs st_f_need_names) (defBody st_f_need_names) (defScope st_f_need_names) .none kV1 dc1 pm1 an1 cd1 ct1), sl1⟩) (c1 : PySem.W.codeIn K cd1 "need_names" = true) (k1 : PySem.W.keepIn K (.ref f1) = true)
    (a2 : PySem.W.nsIn K mainGlobals "forest_by" = some (some (.ref f2)))
    (l2 : K.lookup f2 = some ⟨oc2, od2, .func (PySem.W.fnOf "forest_by" "forest_by" (defArgs st_f_forest_by) (defBody st_f_forest_by) (defScope st_f_forest_by) .none kV2 dc2 pm2 an2 cd2 ct2), sl2⟩) (c2 : PySem.W.codeIn K cd2 "forest_by" = true) (k2 : PySem.W.keepIn K (.ref f2) = true)
    (a3 : PySem.W.nsIn K mainGlobals "_law_mix" = some (some (.ref f3)))
    (l3 : K.lookup f3 = some ⟨oc3, od3, .func (PySem.W.fnOf "_law_mix" "_law_mix" (defArgs st_f_law_mix) (defBody st_f_law_mix) (defScope st_f_law_mix) .none kV3 dc3 pm3 an3 cd3 ct3), sl3⟩) (c3 : PySem.W.codeIn K cd3 "_law_mix" = true) (k3 : PySem.W.keepIn K (.ref f3) = true)
    (a4 : PySem.W.nsIn K mainGlobals "_law_deck" = some (some (.ref f4)))
    (l4 : K.lookup f4 = some ⟨oc4, od4, .func (PySem.W.fnOf "_law_deck" "_law_deck" (defArgs st_f_law_deck) (defBody st_f_law_deck) (defScope st_f_law_deck) .none kV4 dc4 pm4 an4 cd4 ct4), sl4⟩) (c4 : PySem.W.codeIn K cd4 "_law_deck" = true) (k4 : PySem.W.keepIn K (.ref f4) = true)
    (a5 : PySem.W.nsIn K mainGlobals "_law_next" = some (some (.ref f5)))
    (l5 : K.lookup f5 = some ⟨oc5, od5, .func (PySem.W.fnOf "_law_next" "_law_next" (defArgs st_f_law_next) (defBody st_f_law_next) (defScope st_f_law_next) .none kV5 dc5 pm5 an5 cd5 ct5), sl5⟩) (c5 : PySem.W.codeIn K cd5 "_law_next" = true) (k5 : PySem.W.keepIn K (.ref f5) = true)
    (a6 : PySem.W.nsIn K mainGlobals "_law_names" = some (some (.ref f6)))
    (l6 : K.lookup f6 = some ⟨oc6, od6, .func (PySem.W.fnOf "_law_names" "_law_names" (defArgs st_f_law_names) (defBody st_f_law_names) (defScope st_f_law_names) .none kV6 dc6 pm6 an6 cd6 ct6), sl6⟩) (c6 : PySem.W.codeIn K cd6 "_law_names" = true) (k6 : PySem.W.keepIn K (.ref f6) = true)
    (a7 : PySem.W.nsIn K mainGlobals "_law_row" = some (some (.ref f7)))
    (l7 : K.lookup f7 = some ⟨oc7, od7, .func (PySem.W.fnOf "_law_row" "_law_row" (defArgs st_f_law_row) (defBody st_f_law_row) (defScope st_f_law_row) .none kV7 dc7 pm7 an7 cd7 ct7), sl7⟩) (c7 : PySem.W.codeIn K cd7 "_law_row" = true) (k7 : PySem.W.keepIn K (.ref f7) = true)
    (a8 : PySem.W.nsIn K mainGlobals "_law_pairs" = some (some (.ref f8)))
    (l8 : K.lookup f8 = some ⟨oc8, od8, .func (PySem.W.fnOf "_law_pairs" "_law_pairs" (defArgs st_f_law_pairs) (defBody st_f_law_pairs) (defScope st_f_law_pairs) .none kV8 dc8 pm8 an8 cd8 ct8), sl8⟩) (c8 : PySem.W.codeIn K cd8 "_law_pairs" = true) (k8 : PySem.W.keepIn K (.ref f8) = true)
    (a9 : PySem.W.nsIn K mainGlobals "_law_forest" = some (some (.ref f9)))
    (l9 : K.lookup f9 = some ⟨oc9, od9, .func (PySem.W.fnOf "_law_forest" "_law_forest" (defArgs st_f_law_forest) (defBody st_f_law_forest) (defScope st_f_law_forest) .none kV9 dc9 pm9 an9 cd9 ct9), sl9⟩) (c9 : PySem.W.codeIn K cd9 "_law_forest" = true) (k9 : PySem.W.keepIn K (.ref f9) = true)
    (a10 : PySem.W.nsIn K mainGlobals "_law_wrong" = some (some (.ref f10)))
    (l10 : K.lookup f10 = some ⟨oc10, od10, .func (PySem.W.fnOf "_law_wrong" "_law_wrong" (defArgs st_f_law_wrong) (defBody st_f_law_wrong) (defScope st_f_law_wrong) .none kV10 dc10 pm10 an10 cd10 ct10), sl10⟩) (c10 : PySem.W.codeIn K cd10 "_law_wrong" = true) (k10 : PySem.W.keepIn K (.ref f10) = true)
    (a11 : PySem.W.nsIn K mainGlobals "_law_due" = some (some (.ref f11)))
    (l11 : K.lookup f11 = some ⟨oc11, od11, .func (PySem.W.fnOf "_law_due" "_law_due" (defArgs st_f_law_due) (defBody st_f_law_due) (defScope st_f_law_due) .none kV11 dc11 pm11 an11 cd11 ct11), sl11⟩) (c11 : PySem.W.codeIn K cd11 "_law_due" = true) (k11 : PySem.W.keepIn K (.ref f11) = true)
    (a12 : PySem.W.nsIn K mainGlobals "_law_told" = some (some (.ref f12)))
    (l12 : K.lookup f12 = some ⟨oc12, od12, .func (PySem.W.fnOf "_law_told" "_law_told" (defArgs st_f_law_told) (defBody st_f_law_told) (defScope st_f_law_told) .none kV12 dc12 pm12 an12 cd12 ct12), sl12⟩) (c12 : PySem.W.codeIn K cd12 "_law_told" = true) (k12 : PySem.W.keepIn K (.ref f12) = true)
    (a13 : PySem.W.nsIn K mainGlobals "_law_same" = some (some (.ref f13)))
    (l13 : K.lookup f13 = some ⟨oc13, od13, .func (PySem.W.fnOf "_law_same" "_law_same" (defArgs st_f_law_same) (defBody st_f_law_same) (defScope st_f_law_same) .none kV13 dc13 pm13 an13 cd13 ct13), sl13⟩) (c13 : PySem.W.codeIn K cd13 "_law_same" = true) (k13 : PySem.W.keepIn K (.ref f13) = true)
    (a14 : PySem.W.nsIn K mainGlobals "_law_spoilt_row" = some (some (.ref f14)))
    (l14 : K.lookup f14 = some ⟨oc14, od14, .func (PySem.W.fnOf "_law_spoilt_row" "_law_spoilt_row" (defArgs st_f_law_spoilt_row) (defBody st_f_law_spoilt_row) (defScope st_f_law_spoilt_row) .none kV14 dc14 pm14 an14 cd14 ct14), sl14⟩) (c14 : PySem.W.codeIn K cd14 "_law_spoilt_row" = true) (k14 : PySem.W.keepIn K (.ref f14) = true)
    (a15 : PySem.W.nsIn K mainGlobals "_law_spoilt_names" = some (some (.ref f15)))
    (l15 : K.lookup f15 = some ⟨oc15, od15, .func (PySem.W.fnOf "_law_spoilt_names" "_law_spoilt_names" (defArgs st_f_law_spoilt_names) (defBody st_f_law_spoilt_names) (defScope st_f_law_spoilt_names) .none kV15 dc15 pm15 an15 cd15 ct15), sl15⟩) (c15 : PySem.W.codeIn K cd15 "_law_spoilt_names" = true) (k15 : PySem.W.keepIn K (.ref f15) = true)
    (a16 : PySem.W.nsIn K mainGlobals "law" = some (some (.ref f16)))
    (l16 : K.lookup f16 = some ⟨oc16, od16, .func (PySem.W.fnOf "law" "law" (defArgs st_f_law) (defBody st_f_law) (defScope st_f_law) .none kV16 dc16 pm16 an16 cd16 ct16), sl16⟩) (c16 : PySem.W.codeIn K cd16 "law" = true) (k16 : PySem.W.keepIn K (.ref f16) = true)
    {C0 C1 C2 C3 C4 C5 : Addr}
    (aC0 : PySem.W.nsIn K mainGlobals "HoldError" = some (some (.ref C0)))
    (aC1 : PySem.W.nsIn K mainGlobals "NoRows" = some (some (.ref C1)))
    (aC2 : PySem.W.nsIn K mainGlobals "NoName" = some (some (.ref C2)))
    (aC3 : PySem.W.nsIn K mainGlobals "NoNest" = some (some (.ref C3)))
    (aC4 : PySem.W.nsIn K mainGlobals "NoPlace" = some (some (.ref C4)))
    (aC5 : PySem.W.nsIn K mainGlobals "NoAsk" = some (some (.ref C5)))
    (eB : ecB K [C0, C1, C2, C3, C4, C5] ["", "row", "word", "pair", "", ""] subL = true)
    (hr0 : PySem.W.readsIn K C0 (.type "type") = true) (hs0 : PySem.W.specialIn K (.ref C0) "__getattribute__" = some (some (.builtin "type.__getattribute__"))) (hv0 : PySem.W.findCls K (.ref C0) (.type "type") "__init__" = some (.val (.builtin "ValueError.__init__")))
    {nmx1 qx1 : Str} {Nx1 : Addr} {bsx1 : List Value} {snx1 : List Str} {subx1 : List Value} {abx1 : Bool} {colx1 : Option Bool} {ddx1 : Option Addr} {m0x1 m1x1 m2x1 m3x1 m5x1 : Option Value}
    {g1 : Addr} {odx1 anx1 : Option Addr} {slx1 : Array (Option Value)} {ocx1 kVx1 dcx1 pmx1 cdx1 ctx1 : Value}
    (xL1 : K.lookup C1 = some (excClassObj nmx1 qx1 C1 Nx1 bsx1 [.ref C0, .type "ValueError", .type "Exception", .type "BaseException", .type "object"] true snx1 subx1 abx1 colx1 ddx1 m0x1 m1x1 m2x1 m3x1 m5x1 "ValueError.__new__"))
    (sa1 : PySem.W.findIn K (.ref C1) "__setattr__" = some (some (.builtin "object.__setattr__"))) (ii1 : PySem.W.findIn K (.ref C1) "__init__" = some (some (.ref g1))) (ti1 : PySem.W.typeIn K (.ref g1) = some (.type "function"))
    (li1 : K.lookup g1 = some ⟨ocx1, odx1, .func (PySem.W.fnOf "__init__" "NoRows.__init__" (defArgs st_i1) (defBody st_i1) (defScope st_i1) .none kVx1 dcx1 pmx1 anx1 cdx1 ctx1), slx1⟩) (ci1 : PySem.W.codeIn K cdx1 "NoRows.__init__" = true) (ki1 : PySem.W.keepIn K (.ref g1) = true)
    {nmx2 qx2 : Str} {Nx2 : Addr} {bsx2 : List Value} {snx2 : List Str} {subx2 : List Value} {abx2 : Bool} {colx2 : Option Bool} {ddx2 : Option Addr} {m0x2 m1x2 m2x2 m3x2 m5x2 : Option Value}
    {g2 : Addr} {odx2 anx2 : Option Addr} {slx2 : Array (Option Value)} {ocx2 kVx2 dcx2 pmx2 cdx2 ctx2 : Value}
    (xL2 : K.lookup C2 = some (excClassObj nmx2 qx2 C2 Nx2 bsx2 [.ref C0, .type "ValueError", .type "Exception", .type "BaseException", .type "object"] true snx2 subx2 abx2 colx2 ddx2 m0x2 m1x2 m2x2 m3x2 m5x2 "ValueError.__new__"))
    (sa2 : PySem.W.findIn K (.ref C2) "__setattr__" = some (some (.builtin "object.__setattr__"))) (ii2 : PySem.W.findIn K (.ref C2) "__init__" = some (some (.ref g2))) (ti2 : PySem.W.typeIn K (.ref g2) = some (.type "function"))
    (li2 : K.lookup g2 = some ⟨ocx2, odx2, .func (PySem.W.fnOf "__init__" "NoName.__init__" (defArgs st_i2) (defBody st_i2) (defScope st_i2) .none kVx2 dcx2 pmx2 anx2 cdx2 ctx2), slx2⟩) (ci2 : PySem.W.codeIn K cdx2 "NoName.__init__" = true) (ki2 : PySem.W.keepIn K (.ref g2) = true)
    (oB4 : ExcOwn0 K C4)
    (z_ValueError : PySem.W.nsIn K mainGlobals "ValueError" = some none)
    (z_bool : PySem.W.nsIn K mainGlobals "bool" = some none)
    (z_enumerate : PySem.W.nsIn K mainGlobals "enumerate" = some none)
    (z_int : PySem.W.nsIn K mainGlobals "int" = some none)
    (z_isinstance : PySem.W.nsIn K mainGlobals "isinstance" = some none)
    (z_len : PySem.W.nsIn K mainGlobals "len" = some none)
    (z_list : PySem.W.nsIn K mainGlobals "list" = some none)
    (z_max : PySem.W.nsIn K mainGlobals "max" = some none)
    (z_min : PySem.W.nsIn K mainGlobals "min" = some none)
    (z_range : PySem.W.nsIn K mainGlobals "range" = some none)
    (z_str : PySem.W.nsIn K mainGlobals "str" = some none)
    (z_sum : PySem.W.nsIn K mainGlobals "sum" = some none)
    (z_tuple : PySem.W.nsIn K mainGlobals "tuple" = some none)
    (z_zip : PySem.W.nsIn K mainGlobals "zip" = some none)
    (hlaw : ∀ ns : List Int, ns.length ≤ n → BitsOk ns → wpF0 PP k 16 [.p (.lst (ns.map .int))] (fun v _ => v = .p (.bl true)) (fun _ _ _ => False)) :
    ∃ fd : FuncData, (∀ (s : Shared) (v : Value), BindsTo s fd ⟨[v], []⟩ [("script", v)]) ∧ ∀ base : Heap, K.In base → base.Ns mainGlobals mg → FnOk l.prog w K mg base (L2.CX l.prog w) (k + 2) fa fd ["script"] (spLaw n K) := by
  have e := hfa.symm.trans (PySem.W.mg_of KX G a16)
  cases e
  let _ : CN := cnOf [C0, C1, C2, C3, C4, C5] ["", "row", "word", "pair", "", ""] subL 
  have E0 := fun_mk (st := st_f_need_row) l0 c0 k0
  have b0 := E0.binds (ps := ["row"]) fun _ _ _ _ _ _ us hl => match us, hl with | [_], _ => rfl
  have F0 : FD K mg "need_row" st_f_need_row ["row"] _ _ := ⟨E0, PySem.W.mg_of KX G a0, k0, b0⟩
  have E1 := fun_mk (st := st_f_need_names) l1 c1 k1
  have b1 := E1.binds (ps := ["row", "names"]) fun _ _ _ _ _ _ us hl => match us, hl with | [_, _], _ => rfl
  have F1 : FD K mg "need_names" st_f_need_names ["row", "names"] _ _ := ⟨E1, PySem.W.mg_of KX G a1, k1, b1⟩
  have E2 := fun_mk (st := st_f_forest_by) l2 c2 k2
  have b2 := E2.binds (ps := ["row", "names"]) fun _ _ _ _ _ _ us hl => match us, hl with | [_, _], _ => rfl
  have F2 : FD K mg "forest_by" st_f_forest_by ["row", "names"] _ _ := ⟨E2, PySem.W.mg_of KX G a2, k2, b2⟩
  have E3 := fun_mk (st := st_f_law_mix) l3 c3 k3
  have b3 := E3.binds (ps := ["cell", "k"]) fun _ _ _ _ _ _ us hl => match us, hl with | [_, _], _ => rfl
  have F3 : FD K mg "_law_mix" st_f_law_mix ["cell", "k"] _ _ := ⟨E3, PySem.W.mg_of KX G a3, k3, b3⟩
  have E4 := fun_mk (st := st_f_law_deck) l4 c4 k4
  have b4 := E4.binds (ps := ["script"]) fun _ _ _ _ _ _ us hl => match us, hl with | [_], _ => rfl
  have F4 : FD K mg "_law_deck" st_f_law_deck ["script"] _ _ := ⟨E4, PySem.W.mg_of KX G a4, k4, b4⟩
  have E5 := fun_mk (st := st_f_law_next) l5 c5 k5
  have b5 := E5.binds (ps := ["deck", "many"]) fun _ _ _ _ _ _ us hl => match us, hl with | [_, _], _ => rfl
  have F5 : FD K mg "_law_next" st_f_law_next ["deck", "many"] _ _ := ⟨E5, PySem.W.mg_of KX G a5, k5, b5⟩
  have E6 := fun_mk (st := st_f_law_names) l6 c6 k6
  have b6 := E6.binds (ps := ["deck", "many"]) fun _ _ _ _ _ _ us hl => match us, hl with | [_, _], _ => rfl
  have F6 : FD K mg "_law_names" st_f_law_names ["deck", "many"] _ _ := ⟨E6, PySem.W.mg_of KX G a6, k6, b6⟩
  have E7 := fun_mk (st := st_f_law_row) l7 c7 k7
  have b7 := E7.binds (ps := ["deck", "pairs"]) fun _ _ _ _ _ _ us hl => match us, hl with | [_, _], _ => rfl
  have F7 : FD K mg "_law_row" st_f_law_row ["deck", "pairs"] _ _ := ⟨E7, PySem.W.mg_of KX G a7, k7, b7⟩
  have E8 := fun_mk (st := st_f_law_pairs) l8 c8 k8
  have b8 := E8.binds (ps := ["deck", "most"]) fun _ _ _ _ _ _ us hl => match us, hl with | [_, _], _ => rfl
  have F8 : FD K mg "_law_pairs" st_f_law_pairs ["deck", "most"] _ _ := ⟨E8, PySem.W.mg_of KX G a8, k8, b8⟩
  have E9 := fun_mk (st := st_f_law_forest) l9 c9 k9
  have b9 := E9.binds (ps := ["row", "names"]) fun _ _ _ _ _ _ us hl => match us, hl with | [_, _], _ => rfl
  have F9 : FD K mg "_law_forest" st_f_law_forest ["row", "names"] _ _ := ⟨E9, PySem.W.mg_of KX G a9, k9, b9⟩
  have E10 := fun_mk (st := st_f_law_wrong) l10 c10 k10
  have b10 := E10.binds (ps := ["row"]) fun _ _ _ _ _ _ us hl => match us, hl with | [_], _ => rfl
  have F10 : FD K mg "_law_wrong" st_f_law_wrong ["row"] _ _ := ⟨E10, PySem.W.mg_of KX G a10, k10, b10⟩
  have E11 := fun_mk (st := st_f_law_due) l11 c11 k11
  have b11 := E11.binds (ps := ["row", "names"]) fun _ _ _ _ _ _ us hl => match us, hl with | [_, _], _ => rfl
  have F11 : FD K mg "_law_due" st_f_law_due ["row", "names"] _ _ := ⟨E11, PySem.W.mg_of KX G a11, k11, b11⟩
  have E12 := fun_mk (st := st_f_law_told) l12 c12 k12
  have b12 := E12.binds (ps := ["row", "names"]) fun _ _ _ _ _ _ us hl => match us, hl with | [_, _], _ => rfl
  have F12 : FD K mg "_law_told" st_f_law_told ["row", "names"] _ _ := ⟨E12, PySem.W.mg_of KX G a12, k12, b12⟩
  have E13 := fun_mk (st := st_f_law_same) l13 c13 k13
  have b13 := E13.binds (ps := ["found", "due"]) fun _ _ _ _ _ _ us hl => match us, hl with | [_, _], _ => rfl
  have F13 : FD K mg "_law_same" st_f_law_same ["found", "due"] _ _ := ⟨E13, PySem.W.mg_of KX G a13, k13, b13⟩
  have E14 := fun_mk (st := st_f_law_spoilt_row) l14 c14 k14
  have b14 := E14.binds (ps := ["deck", "row"]) fun _ _ _ _ _ _ us hl => match us, hl with | [_, _], _ => rfl
  have F14 : FD K mg "_law_spoilt_row" st_f_law_spoilt_row ["deck", "row"] _ _ := ⟨E14, PySem.W.mg_of KX G a14, k14, b14⟩
  have E15 := fun_mk (st := st_f_law_spoilt_names) l15 c15 k15
  have b15 := E15.binds (ps := ["deck", "names"]) fun _ _ _ _ _ _ us hl => match us, hl with | [_, _], _ => rfl
  have F15 : FD K mg "_law_spoilt_names" st_f_law_spoilt_names ["deck", "names"] _ _ := ⟨E15, PySem.W.mg_of KX G a15, k15, b15⟩
  have E16 := fun_mk (st := st_f_law) l16 c16 k16
  have b16 := E16.binds (ps := ["script"]) fun _ _ _ _ _ _ us hl => match us, hl with | [_], _ => rfl
  have F16 : FD K mg "law" st_f_law ["script"] _ _ := ⟨E16, PySem.W.mg_of KX G a16, k16, b16⟩
  refine ⟨PySem.W.fnOf "law" "law" (defArgs st_f_law) (defBody st_f_law) (defScope st_f_law) .none kV16 dc16 pm16 an16 cd16 ct16, fun s v => .of_eq rfl, fun base _ _ => ?_⟩
  have EE := ecB_ok (ds := []) (gs := []) eB
  have m0 := PySem.W.mg_of KX G aC0
  have m1 := PySem.W.mg_of KX G aC1
  have m2 := PySem.W.mg_of KX G aC2
  have m3 := PySem.W.mg_of KX G aC3
  have m4 := PySem.W.mg_of KX G aC4
  have m5 := PySem.W.mg_of KX G aC5
  have Tx1 : OexC K (CN.adr 1) := ⟨⟨_, _, _, _, _, _, _, _, _, _, _, _, _, _, _, xL1, refs1 C0⟩, sa1, EE.ex 1 (by decide), EE.ty 1 (by decide), EE.kp 1 (by decide)⟩
  have Ei1 := fun_mk (st := st_i1) li1 ci1 ki1
  have bi1 := Ei1.binds (ps := ["self", "row"]) fun _ _ _ _ _ _ us hl => match us, hl with | [_, _], _ => rfl
  have Fi1 := init_1 (P := l.prog) (w := w) (base := base) Ei1 Tx1 (EE.fl 1 (by decide)) m0 hr0 hs0 hv0 (PySem.W.mg_none_of KX G z_str)
  have Tx2 : OexC K (CN.adr 2) := ⟨⟨_, _, _, _, _, _, _, _, _, _, _, _, _, _, _, xL2, refs1 C0⟩, sa2, EE.ex 2 (by decide), EE.ty 2 (by decide), EE.kp 2 (by decide)⟩
  have Ei2 := fun_mk (st := st_i2) li2 ci2 ki2
  have bi2 := Ei2.binds (ps := ["self", "word"]) fun _ _ _ _ _ _ us hl => match us, hl with | [_, _], _ => rfl
  have Fi2 := init_2 (P := l.prog) (w := w) (base := base) Ei2 Tx2 (EE.fl 2 (by decide)) m0 hr0 hs0 hv0 (PySem.W.mg_none_of KX G z_str)
  have T : Txt l.prog w K mg base := ⟨EE, m0, m1, m2, m3, m4, m5, (fun _ _ => rfl), rfl, rfl, rfl, ⟨⟨_, _, ii1, ti1, Fi1, bi1⟩, Tx1⟩, ⟨⟨_, _, ii2, ti2, Fi2, bi2⟩, Tx2⟩, oB4, trivial, PySem.W.mg_none_of KX G z_ValueError, PySem.W.mg_none_of KX G z_bool, PySem.W.mg_none_of KX G z_enumerate, PySem.W.mg_none_of KX G z_int, PySem.W.mg_none_of KX G z_isinstance, PySem.W.mg_none_of KX G z_len, PySem.W.mg_none_of KX G z_list, PySem.W.mg_none_of KX G z_max, PySem.W.mg_none_of KX G z_min, PySem.W.mg_none_of KX G z_range, PySem.W.mg_none_of KX G z_str, PySem.W.mg_none_of KX G z_sum, PySem.W.mg_none_of KX G z_tuple, PySem.W.mg_none_of KX G z_zip⟩
  obtain ⟨h0, h1, h2, h3, h4, h5, h6, h7, h8, h9, h10, h11, h12, h13, h14, h15, h16⟩ := all_ok (P := l.prog) (w := w) (base := base) T F0 F1 F2 F3 F4 F5 F6 F7 F8 F9 F10 F11 F12 F13 F14 F15 F16 k
  exact law_sp h16 hlaw
end K33

set_option maxHeartbeats 4000000
namespace K33
open PySem Am
/-- a slot: empty, or data -/
def PN (x : Option AV) : Prop := x = none ∨ ∃ d, x = some (.p d)
def isTx (d : D) : Prop := ∃ s : T, d = .str s
/-- texts of at most so many signs -/
def Txs (n : Nat) (xs : List D) : Prop := ∀ x ∈ xs, ∃ s : T, x = .str s ∧ s.length ≤ n
theorem Txs.nil {n : Nat} : Txs n [] := fun x h => by simp at h
theorem Txs.app {n : Nat} {xs : List D} {s : T} (h : Txs n xs) (hs : s.length ≤ n) : Txs n (xs ++ [.str s]) := fun x hx => by
  rcases List.mem_append.mp hx with h1 | h1
  · exact h x h1
  · exact ⟨s, List.mem_singleton.mp h1, hs⟩
theorem Txs.cons {n : Nat} {xs : List D} {s : T} (hs : s.length ≤ n) (h : Txs n xs) : Txs n (.str s :: xs) := fun x hx => by
  rcases List.mem_cons.mp hx with h1 | h1
  · exact ⟨s, h1, hs⟩
  · exact h x h1
theorem Txs.tx {n : Nat} {xs : List D} (h : Txs n xs) : ∀ x ∈ xs, isTx x := fun x hx => let ⟨s, e, _⟩ := h x hx; ⟨s, e⟩
theorem Txs.strs {n : Nat} : ∀ {xs : List D}, Txs n xs → ∃ ss : List T, strs? xs = some ss ∧ ss.length = xs.length ∧ ∀ s ∈ ss, s.length ≤ n
  | [], _ => ⟨[], rfl, rfl, fun s h => by simp at h⟩
  | x :: r, h => by
    obtain ⟨s, rfl, hs⟩ := h x List.mem_cons_self
    obtain ⟨ss, e, hl, hall⟩ := Txs.strs (xs := r) fun y hy => h y (List.mem_cons_of_mem _ hy)
    refine ⟨s :: ss, ?_, by simp [hl], fun t ht => ?_⟩
    · show (strs? r).map (s :: ·) = _
      rw [e]
      rfl
    · rcases List.mem_cons.mp ht with e1 | h1
      · rw [e1]; exact hs
      · exact hall t h1
theorem sum_le {n : Nat} : ∀ {ss : List T}, (∀ s ∈ ss, s.length ≤ n) → (ss.map List.length).sum ≤ n * ss.length
  | [], _ => Nat.zero_le _
  | s :: r, h => by
    have h1 := h s List.mem_cons_self
    have h2 := sum_le (ss := r) fun t ht => h t (List.mem_cons_of_mem _ ht)
    simp only [List.map_cons, List.sum_cons, List.length_cons]
    rw [Nat.mul_succ]
    omega
theorem joinT_nil : ∀ ss : List T, joinT [] ss = ss.flatten
  | [] => rfl
  | [x] => by simp [joinT]
  | x :: y :: r => by
    show x ++ [] ++ joinT [] (y :: r) = _
    rw [joinT_nil (y :: r), List.append_nil]
    rfl
theorem joinT_nil_len (ss : List T) : (joinT [] ss).length = (ss.map List.length).sum := by
  rw [joinT_nil, List.length_flatten]
theorem repT_len (s : T) (n : Int) : (repT s n).length = s.length * n.toNat := by
  unfold repT
  rw [List.length_flatten, List.map_replicate, List.sum_replicate_nat, Nat.mul_comm]
/-- whole numbers from lo to below hi -/
def Rg (lo hi : Int) (xs : List D) : Prop := ∀ x ∈ xs, ∃ i : Int, x = .int i ∧ lo ≤ i ∧ i < hi
theorem rg_range (lo hi : Int) : Rg lo hi (rangeD lo hi) := fun x h => by
  unfold rangeD at h
  obtain ⟨i, h1, rfl⟩ := List.mem_map.mp h
  have := List.mem_range.mp h1
  exact ⟨_, rfl, by omega, by omega⟩
theorem range_len (lo hi : Int) : (rangeD lo hi).length = (hi - lo).toNat := by simp [rangeD]
theorem Rg.head {lo hi : Int} {x : D} {r : List D} (h : Rg lo hi (x :: r)) : ∃ i : Int, x = .int i ∧ lo ≤ i ∧ i < hi := h x List.mem_cons_self
theorem Rg.tail {lo hi : Int} {x : D} {r : List D} (h : Rg lo hi (x :: r)) : Rg lo hi r := fun y hy => h y (List.mem_cons_of_mem _ hy)
@[reducible] def abc : T := [97, 98, 99, 100, 101, 102, 103, 104, 105, 106, 107, 108, 109, 110, 111, 112, 113, 114, 115, 116, 117, 118, 119, 120, 121, 122]
theorem emod_b (x : Int) {m : Int} (h : 0 < m) : 0 ≤ x % m ∧ x % m < m := ⟨Int.emod_nonneg _ (by omega), Int.emod_lt_of_pos _ h⟩
theorem Txs.cut {n : Nat} {xs : List D} (h : Txs n xs) (lo hi : Option Int) : Txs n (cut xs lo hi) := fun x hx => h x (cut_mem hx)
theorem cut_tlen {s : T} {lo hi : Option Int} {n : Nat} (h : s.length ≤ n) : (cut s lo hi).length ≤ n := Nat.le_trans (cut_len s lo hi) h
theorem sort2 (x y : Int) : sortD [.int x, .int y] = [.int (min x y), .int (max x y)] := by
  have e : sortD [.int x, .int y] = if decide (y < x) then [.int y, .int x] else [.int x, .int y] := by
    simp only [sortD, sortD.insB, ltB, ltD]
    rfl
  rw [e]
  by_cases h : y < x
  · simp only [h, decide_true, if_true]
    rw [Int.min_eq_right (by omega), Int.max_eq_left (by omega)]
  · simp only [h, decide_false, Bool.false_eq_true, if_false]
    rw [Int.min_eq_left (by omega), Int.max_eq_right (by omega)]
/-- a list of two, its own or data -/
def Two (s : Option AV) (a b : Int) : Prop := s = some (.ol [.int a, .int b]) ∨ s = some (.p (.lst [.int a, .int b]))
theorem eqL_nil : ∀ xs : List D, eqD (.lst xs) (.lst []) = xs.isEmpty
  | [] => rfl
  | _ :: _ => rfl
theorem ifB_ne_nil {xs : List D} {A B : Prop} (h1 : xs ≠ [] → A) (h2 : xs = [] → B) : ifB (nb (eqD (.lst xs) (.lst []))) A B := by
  rw [eqL_nil]
  cases xs with
  | nil => exact h2 rfl
  | cons x r => exact h1 (by simp)
theorem ifB_eq_nil {xs : List D} {A B : Prop} (h1 : xs = [] → A) (h2 : xs ≠ [] → B) : ifB (eqD (.lst xs) (.lst [])) A B := by
  rw [eqL_nil]
  cases xs with
  | nil => exact h1 rfl
  | cons x r => exact h2 (by simp)
theorem dep_lst {xs : List D} {n : Nat} (h : ∀ x ∈ xs, x.dep ≤ n) : (D.lst xs).dep ≤ n + 1 := by
  have := depL_le h
  show depL xs + 1 ≤ n + 1
  omega
theorem dep_tup {xs : List D} {n : Nat} (h : ∀ x ∈ xs, x.dep ≤ n) : (D.tup xs).dep ≤ n + 1 := by
  have := depL_le h
  show depL xs + 1 ≤ n + 1
  omega
theorem eqL_self : ∀ {xs : List D}, (∀ x ∈ xs, eqD x x = true) → eqL xs xs = true
  | [], _ => rfl
  | x :: r, h => by
    show (eqD x x && eqL r r) = true
    rw [h x List.mem_cons_self, eqL_self fun y hy => h y (List.mem_cons_of_mem _ hy)]
    rfl
theorem eqD_int (i : Int) : eqD (.int i) (.int i) = true := decide_eq_true rfl
theorem eqD_str (s : T) : eqD (.str s) (.str s) = true := decide_eq_true rfl
theorem cut_len1 {α : Type} (s : List α) {a : Int} (h : 0 ≤ a) : (cut s none (some a)).length = min a.toNat s.length := by
  unfold cut
  have e1 : clip s.length 0 none = 0 := rfl
  have e2 : clip s.length s.length (some a) = min a.toNat s.length := by
    unfold clip
    simp only
    rw [if_neg (by omega)]
  rw [e1, e2, List.length_take, List.drop_zero]
  omega
theorem cut_len2 {α : Type} (s : List α) {a b : Int} (h : 0 ≤ a) (h2 : 0 ≤ b) : (cut s (some a) (some b)).length ≤ b.toNat - a.toNat := by
  unfold cut
  have e1 : clip s.length 0 (some a) = min a.toNat s.length := by
    unfold clip
    simp only
    rw [if_neg (by omega)]
  have e2 : clip s.length s.length (some b) = min b.toNat s.length := by
    unfold clip
    simp only
    rw [if_neg (by omega)]
  rw [e1, e2, List.length_take, List.length_drop]
  omega
theorem range_nil {lo hi : Int} (h : hi ≤ lo) : rangeD lo hi = [] := by
  unfold rangeD
  rw [show (hi - lo).toNat = 0 by omega]
  rfl
theorem range_cons {lo hi : Int} (h : lo < hi) : rangeD lo hi = .int lo :: rangeD (lo + 1) hi := by
  unfold rangeD
  rw [show (hi - lo).toNat = (hi - (lo + 1)).toNat + 1 by omega, List.range_succ_eq_map, List.map_cons, List.map_map]
  refine congr (congrArg List.cons ?_) (List.map_congr_left fun i _ => ?_)
  · simp
  · show D.int (lo + ((i + 1 : Nat) : Int)) = D.int (lo + 1 + (i : Int))
    congr 1
    omega
theorem at_map {α : Type} {f : α → D} {xs : List α} {x : α} {i : Nat} (h : xs[i]? = some x) : atD (xs.map f) (i : Int) = some (f x) := by
  show getL (xs.map f) i = some (f x)
  rw [getL_eq, List.getElem?_map, h]
  rfl
theorem cut_drop {α : Type} (xs : List α) {a : Nat} (h : a ≤ xs.length) : cut xs (some (a : Int)) none = xs.drop a := by
  unfold cut
  have e1 : clip xs.length 0 (some (a : Int)) = a := by
    unfold clip
    simp only
    rw [if_neg (by omega)]
    omega
  have e2 : clip xs.length xs.length none = xs.length := rfl
  rw [e1, e2, List.take_of_length_le]
  rw [List.length_drop]
  exact Nat.le_refl _
theorem drop_mid {α : Type} : ∀ (a : List α) (x : α) (b : List α), (a ++ x :: b).drop (a.length + 1) = b
  | [], _, _ => rfl
  | _ :: r, x, b => drop_mid r x b
theorem bool_t {f : Bool → Prop} {x : Bool} (e : x = true) (h : f true) : f x := by rw [e]; exact h
theorem bool_f {f : Bool → Prop} {x : Bool} (e : x = false) (h : f false) : f x := by rw [e]; exact h
theorem cut_take {α : Type} (xs : List α) (a : Nat) : cut xs none (some (a : Int)) = xs.take a := by
  unfold cut
  have e1 : clip xs.length 0 none = 0 := rfl
  have e2 : clip xs.length xs.length (some (a : Int)) = min a xs.length := by
    unfold clip
    simp only
    rw [if_neg (by omega)]
    omega
  rw [e1, e2, List.drop_zero, Nat.sub_zero]
  rw [← List.take_take, List.take_length]
theorem ifB_t {b : Bool} {A B : Prop} (e : b = true) (h : A) : ifB b A B := by rw [e]; exact h
theorem ifB_f {b : Bool} {A B : Prop} (e : b = false) (h : B) : ifB b A B := by rw [e]; exact h
/-- as wp_fn, ready for cut_S -/
theorem wp_fnS {P : Prog} {k f : Nat} {d : Fn} {vs : List AV} {Q : FP} {X : FX} (hd : getL P.fns f = some d) (hn : d.np = d.sig.length) (hs : ∀ R : Prop, R → onSig d.sig vs R) (w : wpSs (cx P k) d.body (padS vs d.ns) ⟨fun α => Q (.p .non) (outS d.sig α), fun v α => Q v (outS d.sig α)⟩ fun e ds α => X e ds (outS d.sig α)) :
    wpF0 P (k + 1) f vs Q X := wp_fn hd hn (hs _ w)
end K33

namespace K33
open PySem Am
theorem sp_mix {k : Nat} {Q : FP} {X : FX} {cell kk : Int} (h0 : 0 ≤ kk) (h1 : kk < 2 ^ 60) (h : ∀ r : Int, 0 ≤ r → Q (.p (.int r)) [some (.p (.int cell)), some (.p (.int kk))]) : wpF0 PP (k + 1) 3 [.p (.int cell), .p (.int kk)] Q X := by
  refine wp_fn rfl rfl ?_
  with_reducible conv => whnf
  refine ⟨by decide, ?_⟩
  with_reducible conv => whnf
  refine ⟨.inl ⟨by decide, by decide⟩, ?_⟩
  with_reducible conv => whnf
  refine ⟨.inr ⟨by omega, by omega⟩, ?_⟩
  with_reducible conv => whnf
  refine ⟨.inl ⟨by decide, by decide⟩, ?_⟩
  with_reducible conv => whnf
  refine ⟨by decide, ?_⟩
  with_reducible conv => whnf
  refine ⟨.inl ⟨by omega, by omega⟩, ?_⟩
  with_reducible conv => whnf
  refine ⟨by decide, ?_⟩
  with_reducible conv => whnf
  refine ⟨.inl ⟨by omega, by omega⟩, ?_⟩
  with_reducible conv => whnf
  refine ⟨by decide, ?_⟩
  with_reducible conv => whnf
  refine ⟨by decide, by decide, ?_⟩
  with_reducible conv => whnf
  exact h _ (by omega)
/-- the deck: the cells, how many are taken, what is left of a great one, how many were made -/
def DK (n : Int) (v : List D) : Prop := ∃ (xs : List Int) (a : Nat) (b c e : Int), v = [.lst (xs.map .int), .int (Int.ofNat a), .int b, .int c, .int e] ∧ xs.length ≤ 63 ∧ a ≤ xs.length ∧ 0 ≤ b ∧ 0 ≤ c ∧ c ≤ n
theorem sp_next {k : Nat} {Q : FP} {X : FX} {n m : Int} {v : List D} (hv : DK n v) (hn : n < 2 ^ 50) (h1 : 0 < m) (h2 : m < 2 ^ 64) (h : ∀ (r : Int) (v' : List D), 0 ≤ r → r < m → DK (n + 1) v' → Q (.p (.int r)) [some (.ol v'), some (.p (.int m))]) : wpF0 PP (k + 2) 5 [.ol v, .p (.int m)] Q X := by
  obtain ⟨xs, a, b, c, e, rfl, hx, ha, hb, hc, hcn⟩ := hv
  have mm : ∀ r : Int, 0 ≤ r % m ∧ r % m < m := fun r => ⟨Int.emod_nonneg _ (by omega), Int.emod_lt_of_pos _ h1⟩
  have ea := Int.ofNat_eq_natCast a
  refine wp_fn rfl rfl ?_
  with_reducible conv => whnf
  -- behind the first test
  refine ifB_d (fun h0 => ?_) (fun h0 => ?_)
  · with_reducible conv => whnf
    refine ifB_d (fun h3 => ?_) (fun h3 => ?_)
    · with_reducible conv => whnf
      have ha' : a < xs.length := by simpa using h3
      have eg : getL (xs.map D.int) a = some (.int xs[a]) := by rw [getL_eq]; simp [ha']
      refine onO_s eg ?_
      with_reducible conv => whnf
      refine ⟨by decide, by decide, ?_⟩
      with_reducible conv => whnf
      refine ifB_d (fun h4 => ?_) (fun h4 => ?_)
      · with_reducible conv => whnf
        refine sp_mix (by omega) (by omega) fun r hr => ?_
        with_reducible conv => whnf
        refine ⟨h1, ?_⟩
        with_reducible conv => whnf
        exact h _ _ (mm r).1 (mm r).2 ⟨xs, a + 1, b, c, e, rfl, hx, ha', hb, hc, by omega⟩
      · have h4' : ¬ xs[a] < 1000000000000000000 := h4
        with_reducible conv => whnf
        refine ifB_d (fun h5 => ?_) (fun h5 => ?_)
        · with_reducible conv => whnf
          refine ⟨h1, ?_⟩
          with_reducible conv => whnf
          refine ⟨h1, h2, ?_⟩
          with_reducible conv => whnf
          exact h _ _ (mm _).1 (mm _).2 ⟨xs, a + 1, _, c, e, rfl, hx, ha', Int.ediv_nonneg (by omega) (by omega), hc, by omega⟩
        · with_reducible conv => whnf
          refine sp_mix (by omega) (by omega) fun r hr => ?_
          with_reducible conv => whnf
          refine ⟨h1, ?_⟩
          with_reducible conv => whnf
          exact h _ _ (mm r).1 (mm r).2 ⟨xs, a + 1, _, c + 1, e, rfl, hx, ha', by omega, by omega, by omega⟩
    · with_reducible conv => whnf
      refine ifB_d (fun h5 => ?_) (fun h5 => ?_)
      · with_reducible conv => whnf
        refine ⟨h1, ?_⟩
        with_reducible conv => whnf
        refine ⟨h1, h2, ?_⟩
        with_reducible conv => whnf
        exact h _ _ (mm _).1 (mm _).2 ⟨xs, a, _, c, e, rfl, hx, ha, Int.ediv_nonneg (by omega) (by omega), hc, by omega⟩
      · with_reducible conv => whnf
        refine sp_mix (by omega) (by omega) fun r hr => ?_
        with_reducible conv => whnf
        refine ⟨h1, ?_⟩
        with_reducible conv => whnf
        exact h _ _ (mm r).1 (mm r).2 ⟨xs, a, _, c + 1, e, rfl, hx, ha, by omega, by omega, by omega⟩
  · with_reducible conv => whnf
    refine ifB_d (fun h5 => ?_) (fun h5 => ?_)
    · with_reducible conv => whnf
      refine ⟨h1, ?_⟩
      with_reducible conv => whnf
      refine ⟨h1, h2, ?_⟩
      with_reducible conv => whnf
      exact h _ _ (mm _).1 (mm _).2 ⟨xs, a, _, c, e, rfl, hx, ha, Int.ediv_nonneg (by omega) (by omega), hc, by omega⟩
    · with_reducible conv => whnf
      refine sp_mix (by omega) (by omega) fun r hr => ?_
      with_reducible conv => whnf
      refine ⟨h1, ?_⟩
      with_reducible conv => whnf
      exact h _ _ (mm r).1 (mm r).2 ⟨xs, a, _, c + 1, e, rfl, hx, ha, by omega, by omega, by omega⟩
theorem ints_of : ∀ ns : List Int, ints? (ns.map .int) = some ns
  | [] => rfl
  | i :: r => by
    show (ints? (r.map D.int)).map (i :: ·) = _
    rw [ints_of r]
    rfl
theorem cut_all {ns : List Int} (h : ns.length ≤ 63) : cut (ns.map D.int) none (some 63) = ns.map .int := by
  have e : clip (ns.map D.int).length (ns.map D.int).length (some 63) = min 63 (ns.map D.int).length := rfl
  show ((ns.map D.int).drop 0).take (clip (ns.map D.int).length (ns.map D.int).length (some 63) - 0) = _
  rw [e, List.drop_zero, List.take_of_length_le]
  rw [List.length_map]
  omega
theorem sp_deck {k : Nat} {Q : FP} {X : FX} {ns : List Int} (hl : ns.length ≤ 63) (h : ∀ v, DK 0 v → Q (.ol v) [some (.p (.lst (ns.map .int)))]) : wpF0 PP (k + 1) 4 [.p (.lst (ns.map .int))] Q X := by
  refine wp_fn rfl rfl ?_
  with_reducible conv => whnf
  rw [cut_all hl]
  refine onO_s (ints_of ns) ?_
  with_reducible conv => whnf
  refine ⟨Nat.le_of_ble_eq_true rfl, ?_⟩
  with_reducible conv => whnf
  exact h _ ⟨ns, 0, 0, 0, ns.sum, rfl, hl, Nat.zero_le _, by decide, by decide, by decide⟩
/-- one of three -/
theorem three {r : Int} (h0 : 0 ≤ r) (h1 : r < 3) : r = Int.ofNat 0 ∨ r = Int.ofNat 1 ∨ r = Int.ofNat 2 := by
  have e0 : Int.ofNat 0 = (0 : Int) := rfl
  have e1 : Int.ofNat 1 = (1 : Int) := rfl
  have e2 : Int.ofNat 2 = (2 : Int) := rfl
  omega
theorem DK.mono {n m : Int} {v : List D} (h : DK n v) (hm : n ≤ m) : DK m v := by
  obtain ⟨xs, a, b, c, e, q, h1, h2, h3, h4, h5⟩ := h
  exact ⟨xs, a, b, c, e, q, h1, h2, h3, h4, by omega⟩
end K33

namespace K33
open PySem Am
/-- a name: some small letters -/
def Nm (s : T) : Prop := 1 ≤ s.length ∧ s.length ≤ 8 ∧ ∀ c ∈ s, 97 ≤ c ∧ c < 123
def Az (s : T) : Prop := ∀ c ∈ s, 97 ≤ c ∧ c < 123
theorem az_abc : Az abc := by
  intro c hc
  simp only [abc, List.mem_cons, List.not_mem_nil, or_false] at hc
  omega
theorem Az.app {s t : T} (h : Az s) (h2 : Az t) : Az (s ++ t) := fun c hc => by
  rcases List.mem_append.mp hc with z | z
  · exact h c z
  · exact h2 c z
theorem Az.cut {s : T} (h : Az s) (lo hi : Option Int) : Az (cut s lo hi) := fun c hc => h c (cut_mem hc)
theorem Az.one {c : Nat} (h : c ∈ abc) : Az [c] := fun x hx => by
  rw [List.mem_singleton.mp hx]
  exact az_abc c h
theorem Az.rep {s : T} (h : Az s) (n : Int) : Az (repT s n) := fun c hc => by
  unfold repT at hc
  obtain ⟨l, hl, hm⟩ := List.mem_flatten.mp hc
  rw [List.mem_replicate] at hl
  rw [hl.2] at hm
  exact h c hm
/-- one sign each, of the letters -/
def Ones (xs : List D) : Prop := ∀ x ∈ xs, ∃ c : Nat, x = .str [c] ∧ c ∈ abc
theorem Ones.strs : ∀ {xs : List D}, Ones xs → ∃ ss : List T, strs? xs = some ss ∧ ss.length = xs.length ∧ (joinT [] ss).length = xs.length ∧ joinN [] ss = xs.length ∧ Az (joinT [] ss)
  | [], _ => ⟨[], rfl, rfl, rfl, rfl, fun c h => by simp [joinT] at h⟩
  | x :: r, h => by
    obtain ⟨c, rfl, hc⟩ := h x List.mem_cons_self
    obtain ⟨ss, e, hl, hj, hn, ha⟩ := Ones.strs (xs := r) fun y hy => h y (List.mem_cons_of_mem _ hy)
    refine ⟨[c] :: ss, ?_, by simp [hl], ?_, ?_, ?_⟩
    · show (strs? r).map ([c] :: ·) = _
      rw [e]
      rfl
    · rw [joinT_nil] at hj ⊢
      simpa using hj
    · unfold joinN at hn ⊢
      simp only [List.map_cons, List.sum_cons, List.length_cons, List.length_nil, Nat.mul_zero] at hn ⊢
      omega
    · rw [joinT_nil] at ha ⊢
      exact Az.app (Az.one hc) ha
theorem Ones.app {xs : List D} {c : Nat} (h : Ones xs) (hc : c ∈ abc) : Ones (xs ++ [.str [c]]) := fun x hx => by
  rcases List.mem_append.mp hx with h1 | h1
  · exact h x h1
  · exact ⟨c, List.mem_singleton.mp h1, hc⟩
theorem in_strs (s : T) (ss : List T) : inD (.str s) (ss.map .str) = decide (s ∈ ss) := by
  induction ss with
  | nil => rfl
  | cons t r ih =>
    have e : inD (.str s) ((t :: r).map .str) = (decide (t = s) || inD (.str s) (r.map .str)) := rfl
    rw [e, ih]
    by_cases h : t = s
    · subst h; simp
    · have h2 : ¬ s = t := fun z => h z.symm
      simp [h, h2]
theorem depL_strs (ss : List T) : depL (ss.map .str) ≤ 0 := depL_le fun x hx => by
  obtain ⟨s, _, rfl⟩ := List.mem_map.mp hx
  exact Nat.le_refl _
theorem nodup_le : ∀ {l m : List T}, l.Nodup → (∀ x ∈ l, x ∈ m) → l.length ≤ m.length
  | [], _, _, _ => Nat.zero_le _
  | x :: r, m, h, hs => by
    obtain ⟨h1, h2⟩ := List.nodup_cons.mp h
    have hx := hs x List.mem_cons_self
    have := nodup_le (l := r) (m := m.erase x) h2 fun y hy => (List.mem_erase_of_ne (fun e => h1 (by rw [← e]; exact hy))).mpr (hs y (List.mem_cons_of_mem _ hy))
    rw [List.length_erase_of_mem hx] at this
    have : 0 < m.length := List.length_pos_of_mem hx
    simp only [List.length_cons]
    omega
/-- the letter at a place -/
def ltr (i : Int) : Nat := 97 + i.toNat
theorem abc_at {i : Int} (h0 : 0 ≤ i) (h1 : i < 26) : atD abc i = some (ltr i) := by
  obtain ⟨n, rfl⟩ := nat_of h0
  have hn : n < 26 := Int.ofNat_lt.mp h1
  show getL abc n = some (97 + n)
  rw [getL_eq]
  have : ∀ n : Nat, n < 26 → abc[n]? = some (97 + n) := by decide
  exact this n hn
theorem ltr_mem {i : Int} (h0 : 0 ≤ i) (h1 : i < 26) : ltr i ∈ abc := by
  have := abc_at h0 h1
  obtain ⟨n, rfl⟩ := nat_of h0
  have e : getL abc n = some (ltr (Int.ofNat n)) := this
  rw [getL_eq] at e
  exact List.mem_of_getElem? e
/-- the names that are tried where a name is taken -/
def cand (b : T) (t : Nat) : T := [ltr ((t : Int) % 26)] ++ [ltr ((t : Int) / 26)] ++ b
theorem cand_inj {b : T} {t u : Nat} (h : cand b t = cand b u) : t = u := by
  unfold cand at h
  simp only [List.cons_append, List.nil_append, List.cons.injEq, and_true] at h
  unfold ltr at h
  omega
theorem cands {b : T} {ss : List T} {t : Nat} (h : ∀ u, u < t → cand b u ∈ ss) : t ≤ ss.length := by
  have := nodup_le (l := (List.range t).map (cand b)) (m := ss) ?_ fun x hx => ?_
  · simpa using this
  · unfold List.Nodup
    rw [List.pairwise_map]
    exact List.Pairwise.imp (fun hne e => hne (cand_inj e)) (List.nodup_range (n := t))
  · obtain ⟨u, hu, rfl⟩ := List.mem_map.mp hx
    exact h u (List.mem_range.mp hu)
theorem erase_map {α β : Type} (f : α → β) : ∀ (l : List α) (i : Nat), (l.map f).eraseIdx i = (l.eraseIdx i).map f
  | [], _ => rfl
  | _ :: _, 0 => rfl
  | x :: r, i + 1 => congrArg (f x :: ·) (erase_map f r i)
theorem erase_perm {α : Type} : ∀ {l : List α} {i : Nat} (h : i < l.length), ([l[i]] ++ l.eraseIdx i).Perm l
  | x :: r, 0, _ => List.Perm.refl _
  | x :: r, i + 1, h => by
    have h' : i < r.length := by simpa using h
    show ([r[i]] ++ x :: r.eraseIdx i).Perm (x :: r)
    exact (List.Perm.swap x r[i] _).trans (List.Perm.cons x (erase_perm h'))
theorem sp_names {k : Nat} {Q : FP} {X : FX} {n many : Int} {v : List D} (hv : DK n v) (hn : n < 2 ^ 40) (h0 : 0 ≤ many) (h1 : many ≤ 40) (h : ∀ (ss : List T) (v' : List D), (ss.length : Int) = many → ss.Nodup → (∀ s ∈ ss, Nm s) → DK (n + 500) v' → Q (.ol (ss.map .str)) [some (.ol v'), some (.p (.int many))]) : wpF0 PP (k + 3) 6 [.ol v, .p (.int many)] Q X := by
  refine wp_fn rfl rfl ?_
  refine cut_S 5 (fun α => ∃ (v : List D) (way : Int) (base : T) (at' : Int), α = [some (.ol v), some (.p (.int many)), some (.p (.str abc)), some (.p (.int way)), some (.p (.str base)), some (.p (.int at')), some (.ol []), none, none, none, none] ∧ DK (n + 10) v ∧ base.length = 8 ∧ Az base ∧ 0 ≤ at' ∧ at' < 7) (fun K hK => ?_) fun α hJ => ?_
  · with_reducible conv => whnf
    refine sp_next hv (by omega) (by decide) (by decide) fun way v1 w0 w1 hv1 => ?_
    with_reducible conv => whnf
    refine ⟨by decide, ?_⟩
    with_reducible conv => whnf
    refine ⟨Nat.le_of_ble_eq_true rfl, ?_⟩
    refine loopC_inv (fun rest acc α => ∃ v x, α = [some (.ol v), some (.p (.int many)), some (.p (.str abc)), some (.p (.int way)), none, none, none, x, none, none, none] ∧ DK (n + 1 + acc.length) v ∧ acc.length + rest.length = 8 ∧ Ones acc)
      (fun x r acc α hI => ⟨trivial, fun k' hk => ?_⟩) (fun acc α hI => ⟨trivial, ?_⟩) _ _ _ ⟨_, _, rfl, hv1.mono (by simp), by decide, fun x h => by simp at h⟩
    · obtain ⟨v2, y, rfl, hv2, hl, ht⟩ := hI
      rw [List.length_cons] at hl
      with_reducible conv => whnf
      refine sp_next hv2 (by omega) (by decide) (by decide) fun c v3 c0 c1 hv3 => ?_
      with_reducible conv => whnf
      refine ⟨Nat.le_of_ble_eq_true rfl, ?_⟩
      refine onO_s (abc_at c0 c1) ?_
      with_reducible conv => whnf
      exact hk _ _ ⟨_, _, rfl, hv3.mono (by simp; omega), by simp; omega, ht.app (ltr_mem c0 c1)⟩
    · obtain ⟨v2, y, rfl, hv2, hl, ht⟩ := hI
      have hl : acc.length = 8 := by simpa using hl
      obtain ⟨ss, es, sl, sj, sn, sa⟩ := ht.strs
      with_reducible conv => whnf
      refine onO_s es ?_
      refine ⟨by rw [sn, hl]; decide, ?_⟩
      generalize joinT [] ss = base at sj sa ⊢
      with_reducible conv => whnf
      refine sp_next hv2 (by omega) (by decide) (by decide) fun place v3 p0 p1 hv3 => ?_
      with_reducible conv => whnf
      refine ⟨Nat.zero_le _, ?_⟩
      with_reducible conv => whnf
      exact hK _ ⟨_, _, _, _, rfl, hv3.mono (by omega), by omega, sa, p0, p1⟩
  obtain ⟨v1, way, base, at', rfl, hv1, bl, ba, p0, p1⟩ := hJ
  refine cut_S 1 (fun α => ∃ (v : List D) (ss : List T) (x y z : Option AV), α = [some (.ol v), some (.p (.int many)), some (.p (.str abc)), some (.p (.int way)), some (.p (.str base)), some (.p (.int at')), some (.ol (ss.map .str)), x, y, z, none] ∧ PN x ∧ DK (n + 450) v ∧ (ss.length : Int) = many ∧ ss.Nodup ∧ ∀ s ∈ ss, Nm s) (fun K hK => ?_) fun α hJ => ?_
  · with_reducible conv => whnf
    refine ⟨⟨by omega, by omega⟩, ?_⟩
    have rl : ((rangeD 0 many).length : Int) = many := by rw [range_len]; omega
    refine loopW_inv (fun rest α => ∃ (v : List D) (ss : List T) (x y z : Option AV), α = [some (.ol v), some (.p (.int many)), some (.p (.str abc)), some (.p (.int way)), some (.p (.str base)), some (.p (.int at')), some (.ol (ss.map .str)), x, y, z, none] ∧ PN x ∧ DK (n + 10 + 10 * ss.length) v ∧ (ss.length + rest.length : Int) = many ∧ ss.Nodup ∧ (∀ s ∈ ss, Nm s) ∧ Rg 0 many rest)
      (fun x r α hI => ⟨trivial, fun k' hk => ?_⟩) (fun α hI => ⟨trivial, ?_⟩) _ _ ⟨_, [], _, _, _, rfl, .inl rfl, hv1.mono (by simp), by simpa using rl, List.nodup_nil, fun s h => by simp at h, rg_range 0 many⟩
    · obtain ⟨v2, ss, x7, y8, z9, rfl, px, hv2, hl, nd, hnm, rg⟩ := hI
      obtain ⟨i, rfl, i0, i1⟩ := rg.head
      rw [List.length_cons] at hl
      unfold f_law_names_b2
      refine cut_S 1 (fun α => ∃ (v : List D) (s : T), α = [some (.ol v), some (.p (.int many)), some (.p (.str abc)), some (.p (.int way)), some (.p (.str base)), some (.p (.int at')), some (.ol (ss.map .str)), some (.p (.int i)), some (.p (.str s)), z9, none] ∧ DK (n + 20 + 10 * ss.length) v ∧ Nm s) (fun K hK => ?_) fun α hJ => ?_
      · with_reducible conv => whnf
        refine sp_next hv2 (by omega) (by decide) (by decide) fun q v3 q0 q1 hv3 => ?_
        with_reducible conv => whnf
        refine ⟨⟨by omega, by omega⟩, ?_⟩
        with_reducible conv => whnf
        have ql : ((rangeD 0 (1 + q)).length : Int) = 1 + q := by rw [range_len]; omega
        refine ⟨(by (try simp only [List.length_append, List.length_cons, List.length_nil, repT_len]); (try unfold big); omega), ?_⟩
        refine loopC_inv (fun rest acc α => ∃ v x, α = [some (.ol v), some (.p (.int many)), some (.p (.str abc)), some (.p (.int way)), some (.p (.str base)), some (.p (.int at')), some (.ol (ss.map .str)), some (.p (.int i)), y8, z9, x] ∧ DK (n + 11 + 10 * ss.length + acc.length) v ∧ (acc.length + rest.length : Int) = 1 + q ∧ Ones acc)
          (fun x r acc α hI => ⟨trivial, fun k' hk => ?_⟩) (fun acc α hI => ⟨trivial, ?_⟩) _ _ _ ⟨_, _, rfl, hv3.mono (by simp; omega), by simpa using ql, fun x h => by simp at h⟩
        · obtain ⟨v4, y, rfl, hv4, hl4, ht⟩ := hI
          rw [List.length_cons] at hl4
          with_reducible conv => whnf
          refine sp_next hv4 (by omega) (by decide) (by decide) fun c v5 c0 c1 hv5 => ?_
          with_reducible conv => whnf
          refine ⟨Nat.le_of_ble_eq_true rfl, ?_⟩
          refine onO_s (abc_at c0 c1) ?_
          with_reducible conv => whnf
          exact hk _ _ ⟨_, _, rfl, hv5.mono (by simp; omega), by simp; omega, ht.app (ltr_mem c0 c1)⟩
        · obtain ⟨v4, y, rfl, hv4, hl4, ht⟩ := hI
          have hl4 : (acc.length : Int) = 1 + q := by simpa using hl4
          obtain ⟨ts, es, sl, sj, sn, sa⟩ := ht.strs
          with_reducible conv => whnf
          refine onO_s es ?_
          refine ⟨by rw [sn]; unfold big; omega, ?_⟩
          generalize joinT [] ts = s at sj sa ⊢
          with_reducible conv => whnf
          exact hK _ ⟨_, _, rfl, hv4.mono (by omega), by omega, by omega, sa⟩
      obtain ⟨v3, s, rfl, hv3, ns⟩ := hJ
      refine cut_S 2 (fun α => ∃ (s : T), α = [some (.ol v3), some (.p (.int many)), some (.p (.str abc)), some (.p (.int way)), some (.p (.str base)), some (.p (.int at')), some (.ol (ss.map .str)), some (.p (.int i)), some (.p (.str s)), z9, none] ∧ Nm s) (fun K hK => ?_) fun α hJ => ?_
      · with_reducible conv => whnf
        have c1 := cut_len1 base p0
        have c2 := cut_len2 base p0 (b := 6) (by decide)
        refine ifB_d (fun w1 => ?_) (fun w1 => ?_)
        · with_reducible conv => whnf
          refine ⟨(by (try simp only [List.length_append, List.length_cons, List.length_nil, repT_len]); (try unfold big); omega), ?_⟩
          with_reducible conv => whnf
          refine ⟨by decide, ?_⟩
          with_reducible conv => whnf
          refine ⟨Nat.le_of_ble_eq_true rfl, ?_⟩
          have em := emod_b (i + at') (m := 26) (by decide)
          refine onO_s (abc_at em.1 em.2) ?_
          with_reducible conv => whnf
          refine ⟨(by (try simp only [List.length_append, List.length_cons, List.length_nil, repT_len]); (try unfold big); omega), ?_⟩
          with_reducible conv => whnf
          refine ⟨(by (try simp only [List.length_append, List.length_cons, List.length_nil, repT_len]); (try unfold big); omega), ?_⟩
          with_reducible conv => whnf
          refine ⟨(by (try simp only [List.length_append, List.length_cons, List.length_nil, repT_len]); (try unfold big); omega), ?_⟩
          with_reducible conv => whnf
          refine ⟨(by (try simp only [List.length_append, List.length_cons, List.length_nil, repT_len]); (try unfold big); omega), ?_⟩
          refine onO_atT (r := 6) (by decide) (by rw [bl]; decide) fun c6 hc6 => ?_
          with_reducible conv => whnf
          refine ⟨by decide, by decide, ?_⟩
          with_reducible conv => whnf
          refine ⟨(by (try simp only [List.length_append, List.length_cons, List.length_nil, repT_len]); (try unfold big); omega), by omega, by omega, ?_⟩
          with_reducible conv => whnf
          refine ⟨(by (try simp only [List.length_append, List.length_cons, List.length_nil, repT_len]); (try unfold big); omega), ?_⟩
          with_reducible conv => whnf
          have z6 : Az [c6] := fun x hx => by
            rw [List.mem_singleton.mp hx]
            exact ba _ hc6
          rw [show decide (way = 2) = false from decide_eq_false (by first | assumption | omega)]
          with_reducible conv => whnf
          refine hK _ ⟨_, rfl, (by (try simp only [List.length_append, List.length_cons, List.length_nil, repT_len]); (try unfold big); omega), (by (try simp only [List.length_append, List.length_cons, List.length_nil, repT_len]); (try unfold big); omega), ?_⟩
          exact Az.app (Az.app (Az.app (ba.cut _ _) (Az.one (ltr_mem em.1 em.2))) (ba.cut _ _)) (z6.rep _)
        · with_reducible conv => whnf
          refine ifB_d (fun w2 => ?_) (fun w2 => ?_)
          · with_reducible conv => whnf
            refine ifB_d (fun w3 => ?_) (fun w3 => ?_)
            · have c3 := cut_len1 base (a := i + 1) (by omega)
              with_reducible conv => whnf
              refine ⟨(by (try simp only [List.length_append, List.length_cons, List.length_nil, repT_len]); (try unfold big); omega), ?_⟩
              with_reducible conv => whnf
              exact hK _ ⟨_, rfl, by omega, by omega, ba.cut _ _⟩
            · with_reducible conv => whnf
              exact hK _ ⟨_, rfl, ns⟩
          · with_reducible conv => whnf
            exact hK _ ⟨_, rfl, ns⟩
      obtain ⟨s, rfl, ns⟩ := hJ
      refine cut_S 2 (fun α => ∃ (s : T) (z : Option AV), α = [some (.ol v3), some (.p (.int many)), some (.p (.str abc)), some (.p (.int way)), some (.p (.str base)), some (.p (.int at')), some (.ol (ss.map .str)), some (.p (.int i)), some (.p (.str s)), z, none] ∧ Nm s ∧ s ∉ ss) (fun K hK => ?_) fun α hJ => ?_
      · with_reducible conv => whnf
        refine loopN_ex (fun α m => ∃ (s : T) (t : Nat), α = [some (.ol v3), some (.p (.int many)), some (.p (.str abc)), some (.p (.int way)), some (.p (.str base)), some (.p (.int at')), some (.ol (ss.map .str)), some (.p (.int i)), some (.p (.str s)), some (.p (.int t)), none] ∧ Nm s ∧ (0 < t → s = cand (cut base none (some 4)) (t - 1)) ∧ (∀ u, u + 1 < t → cand (cut base none (some 4)) u ∈ ss) ∧ m + t = 50) (m := 50) ⟨s, 0, rfl, ns, fun h => by omega, fun u h => by omega, rfl⟩ fun α m hI k' hk => ?_
        obtain ⟨s, t, rfl, ns, hc, hall, hm⟩ := hI
        with_reducible conv => whnf
        refine ⟨Nat.zero_le _, Nat.le_trans (depL_strs ss) (by decide), ?_⟩
        rw [in_strs]
        with_reducible conv => whnf
        refine ifB_d (fun hin => ?_) (fun hin => ?_)
        · have hle : t ≤ ss.length := cands (b := cut base none (some 4)) fun u hu => by
            by_cases e : u + 1 < t
            · exact hall u e
            · have e2 : u = t - 1 := by omega
              rw [e2, ← hc (by omega)]
              exact hin
          have hl' : t ≤ 40 := by omega
          unfold f_law_names_b1
          with_reducible conv => whnf
          refine ⟨by decide, ?_⟩
          with_reducible conv => whnf
          refine ⟨Nat.le_of_ble_eq_true rfl, ?_⟩
          refine onO_s (abc_at (i := (t : Int) % 26) (by omega) (by omega)) ?_
          with_reducible conv => whnf
          refine ⟨by decide, by decide, ?_⟩
          with_reducible conv => whnf
          refine ⟨Nat.le_of_ble_eq_true rfl, ?_⟩
          refine onO_s (abc_at (i := (t : Int) / 26) (by omega) (by omega)) ?_
          with_reducible conv => whnf
          refine ⟨(by (try simp only [List.length_append, List.length_cons, List.length_nil, repT_len]); (try unfold big); omega), ?_⟩
          with_reducible conv => whnf
          have c4 := cut_len1 base (a := 4) (by decide)
          refine ⟨(by (try simp only [List.length_append, List.length_cons, List.length_nil, repT_len]); (try unfold big); omega), ?_⟩
          with_reducible conv => whnf
          refine ⟨(by (try simp only [List.length_append, List.length_cons, List.length_nil, repT_len]); (try unfold big); omega), ?_⟩
          with_reducible conv => whnf
          refine hk _ (m - 1) ⟨cand (cut base none (some 4)) t, t + 1, rfl, ⟨?_, ?_, ?_⟩, fun _ => rfl, fun u hu => ?_, by omega⟩ (by omega)
          · unfold cand
            exact (by (try simp only [List.length_append, List.length_cons, List.length_nil, repT_len]); (try unfold big); omega)
          · unfold cand
            exact (by (try simp only [List.length_append, List.length_cons, List.length_nil, repT_len]); (try unfold big); omega)
          · exact Az.app (Az.app (Az.one (ltr_mem (by omega) (by omega))) (Az.one (ltr_mem (by omega) (by omega)))) (ba.cut _ _)
          · by_cases e : u + 1 < t
            · exact hall u e
            · have e2 : u = t - 1 := by omega
              rw [e2, ← hc (by omega)]
              exact hin
        · with_reducible conv => whnf
          exact hK _ ⟨_, _, rfl, ns, hin⟩
      obtain ⟨s, z, rfl, ns, hin⟩ := hJ
      with_reducible conv => whnf
      refine ⟨by rw [List.length_map]; unfold big; omega, ?_⟩
      with_reducible conv => whnf
      refine hk _ ⟨_, ss ++ [s], _, _, _, by rw [List.map_append]; rfl, .inr ⟨_, rfl⟩, hv3.mono (by simp; omega), by simp; omega, ?_, fun t ht => ?_, rg.tail⟩
      · refine List.nodup_append.mpr ⟨nd, by simp, fun a ha b hb e => ?_⟩
        rw [List.mem_singleton.mp hb] at e
        rw [e] at ha
        exact hin ha
      · rcases List.mem_append.mp ht with h | h
        · exact hnm t h
        · rw [List.mem_singleton.mp h]
          exact ns
    · obtain ⟨v2, ss, x7, y8, z9, rfl, px, hv2, hl, nd, hnm, rg⟩ := hI
      have hl : (ss.length : Int) = many := by simpa using hl
      exact hK _ ⟨_, ss, _, _, _, rfl, px, hv2.mono (by omega), hl, nd, hnm⟩
  obtain ⟨v2, ss, x7, y8, z9, rfl, px, hv2, hl, nd, hnm⟩ := hJ
  with_reducible conv => whnf
  refine ⟨⟨by omega, by omega⟩, ?_⟩
  have rl : ((rangeD 0 many).length : Int) = many := by rw [range_len]; omega
  refine ⟨(by (try simp only [List.length_append, List.length_cons, List.length_nil, repT_len]); (try unfold big); omega), ?_⟩
  refine loopC_inv (fun rest acc α => ∃ (v : List D) (sp ts : List T) (x : Option AV), α = [some (.ol v), some (.p (.int many)), some (.p (.str abc)), some (.p (.int way)), some (.p (.str base)), some (.p (.int at')), some (.ol (sp.map .str)), x, y8, z9, none] ∧ acc = ts.map .str ∧ DK (n + 450 + ts.length) v ∧ (ts ++ sp).Perm ss ∧ (ts.length + rest.length : Int) = many)
    (fun x r acc α hI => ⟨trivial, fun k' hk => ?_⟩) (fun acc α hI => ⟨trivial, ?_⟩) _ _ _ ⟨_, ss, [], _, rfl, rfl, hv2.mono (by simp), List.Perm.refl _, by simpa using rl⟩
  · obtain ⟨v3, sp, ts, y, rfl, rfl, hv3, pm, hl2⟩ := hI
    rw [List.length_cons] at hl2
    have pl := pm.length_eq
    rw [List.length_append] at pl
    with_reducible conv => whnf
    refine sp_next hv3 (by omega) (by rw [List.length_map]; omega) (by rw [List.length_map]; omega) fun q v4 q0 q1 hv4 => ?_
    obtain ⟨i, rfl⟩ := nat_of q0
    have hi : i < sp.length := by
      have := Int.ofNat_lt.mp q1
      rwa [List.length_map] at this
    with_reducible conv => whnf
    have e1 : getL (sp.map D.str) i = some (.str sp[i]) := by rw [getL_eq]; simp [hi]
    refine onO_s e1 ?_
    with_reducible conv => whnf
    refine hk _ _ ⟨_, sp.eraseIdx i, ts ++ [sp[i]], _, by rw [erase_map], by rw [List.map_append]; rfl, hv4.mono (by simp; omega), ?_, by simp; omega⟩
    refine List.Perm.trans ?_ pm
    rw [List.append_assoc]
    exact List.Perm.append_left ts (erase_perm hi)
  · obtain ⟨v3, sp, ts, y, rfl, rfl, hv3, pm, hl2⟩ := hI
    have hl2 : (ts.length : Int) = many := by simpa using hl2
    have pl := pm.length_eq
    rw [List.length_append] at pl
    have : sp = [] := List.eq_nil_of_length_eq_zero (by omega)
    subst this
    rw [List.append_nil] at pm
    have nd2 : ts.Nodup := pm.nodup_iff.mpr nd
    rcases px with rfl | ⟨d, rfl⟩ <;> exact h ts _ hl2 nd2 (fun s hs => hnm s (pm.mem_iff.mp hs)) (hv3.mono (by omega))
end K33

namespace K33
open PySem Am
theorem drop_f {α : Type} {f : Nat → α} {n p : Nat} {x : α} {r : List α} (h : x :: r = ((List.range n).drop p).map f) : p < n ∧ x = f p ∧ r = ((List.range n).drop (p + 1)).map f := by
  have hlt : p < n := by
    rcases Nat.lt_or_ge p n with h' | h'
    · exact h'
    · rw [List.drop_eq_nil_of_le (by simpa using h')] at h
      cases h
  rw [List.drop_eq_getElem_cons (by simpa using hlt), List.getElem_range, List.map_cons] at h
  injection h with h1 h2
  exact ⟨hlt, h1, h2⟩
theorem drop_fe {α : Type} {f : Nat → α} {n p : Nat} (hp : p ≤ n) (h : [] = ((List.range n).drop p).map f) : p = n := by
  have := congrArg List.length h
  simp at this
  omega
/-- a forest, its first tree ahead of the rest -/
inductive Fo where
  | nil
  | cons (n : T) (s r : Fo)
def Fo.row : Fo → T
  | .nil => []
  | .cons _ s r => 40 :: (s.row ++ 41 :: r.row)
def Fo.size : Fo → Nat
  | .nil => 0
  | .cons _ s r => s.size + r.size + 1
def Fo.dep : Fo → Nat
  | .nil => 0
  | .cons _ s r => max (s.dep + 1) r.dep
def Fo.data : Fo → List D
  | .nil => []
  | .cons n s r => .tup [.str n, .tup s.data] :: r.data
def Fo.snoc : Fo → T → Fo → Fo
  | .nil, m, F => .cons m F .nil
  | .cons n s r, m, F => .cons n s (r.snoc m F)
theorem Fo.snoc_row : ∀ (G : Fo) (m : T) (F : Fo), (G.snoc m F).row = G.row ++ 40 :: (F.row ++ [41])
  | .nil, m, F => rfl
  | .cons n s r, m, F => by
    show 40 :: (s.row ++ 41 :: (r.snoc m F).row) = 40 :: (s.row ++ 41 :: r.row) ++ 40 :: (F.row ++ [41])
    rw [Fo.snoc_row r m F]
    simp
theorem Fo.snoc_data : ∀ (G : Fo) (m : T) (F : Fo), (G.snoc m F).data = G.data ++ [.tup [.str m, .tup F.data]]
  | .nil, m, F => rfl
  | .cons n s r, m, F => by
    show D.tup [.str n, .tup s.data] :: (r.snoc m F).data = _
    rw [Fo.snoc_data r m F]
    rfl
theorem Fo.snoc_dep : ∀ (G : Fo) (m : T) (F : Fo), (G.snoc m F).dep = max G.dep (F.dep + 1)
  | .nil, m, F => by
    show max (F.dep + 1) 0 = max 0 (F.dep + 1)
    omega
  | .cons n s r, m, F => by
    show max (s.dep + 1) (r.snoc m F).dep = max (max (s.dep + 1) r.dep) (F.dep + 1)
    rw [Fo.snoc_dep r m F]
    omega
theorem Fo.row_len : ∀ F : Fo, F.row.length = 2 * F.size
  | .nil => rfl
  | .cons n s r => by
    show (40 :: (s.row ++ 41 :: r.row)).length = 2 * (s.size + r.size + 1)
    rw [List.length_cons, List.length_append, List.length_cons, Fo.row_len s, Fo.row_len r]
    omega
theorem Fo.dep_le : ∀ F : Fo, F.dep ≤ F.size
  | .nil => Nat.le_refl _
  | .cons n s r => by
    show max (s.dep + 1) r.dep ≤ s.size + r.size + 1
    have := Fo.dep_le s
    have := Fo.dep_le r
    omega
theorem Fo.data_len : ∀ F : Fo, F.data.length ≤ F.size
  | .nil => Nat.le_refl _
  | .cons n s r => by
    show (D.tup [.str n, .tup s.data] :: r.data).length ≤ s.size + r.size + 1
    rw [List.length_cons]
    have := Fo.data_len r
    omega
/-- what is ahead of the place: the forests that are open, the innermost first -/
def pre : List Fo → T
  | [] => []
  | [F] => F.row
  | F :: G :: st => pre (G :: st) ++ 40 :: F.row
theorem pre_open {F : Fo} {st : List Fo} : pre (.nil :: F :: st) = pre (F :: st) ++ [40] := rfl
theorem pre_shut : ∀ {F G : Fo} {st : List Fo}, pre (F :: G :: st) ++ [41] = pre (G.snoc [] F :: st)
  | F, G, [] => by
    show (G.row ++ 40 :: F.row) ++ [41] = (G.snoc [] F).row
    rw [Fo.snoc_row]
    simp
  | F, G, H :: st => by
    show (pre (H :: st) ++ 40 :: G.row) ++ 40 :: F.row ++ [41] = pre (H :: st) ++ 40 :: (G.snoc [] F).row
    rw [Fo.snoc_row]
    simp
theorem sp_pairs {k : Nat} {Q : FP} {X : FX} {n : Int} {v : List D} {m : Nat} (hv : DK n v) (hn : n < 2 ^ 40) (hm : 4 ≤ m ∧ m ≤ 40) (h : ∀ (p : Nat) (v' : List D), p ≤ m → DK (n + 3) v' → Q (.p (.int p)) [some (.ol v'), some (.p (.int m))]) : wpF0 PP (k + 3) 8 [.ol v, .p (.int m)] Q X := by
  refine wp_fn rfl rfl ?_
  with_reducible conv => whnf
  refine sp_next hv (by omega) (by omega) (by omega) fun a v1 a0 a1 hv1 => ?_
  with_reducible conv => whnf
  refine sp_next hv1 (by omega) (by decide) (by decide) fun b v2 b0 b1 hv2 => ?_
  with_reducible conv => whnf
  refine ⟨Nat.le_of_ble_eq_true rfl, ?_⟩
  with_reducible conv => whnf
  refine sp_next hv2 (by omega) (by decide) (by decide) fun c v3 c0 c1 hv3 => ?_
  with_reducible conv => whnf
  refine onO_at (P := fun d => ∃ p : Nat, d = .int p ∧ p ≤ m) (fun x hx => ?_) c0 c1 fun d hd => ?_
  · simp only [List.mem_cons, List.not_mem_nil, or_false] at hx
    rcases hx with rfl | rfl | rfl
    · exact ⟨a.toNat, by rw [Int.toNat_of_nonneg a0], by omega⟩
    · exact ⟨b.toNat, by rw [Int.toNat_of_nonneg b0], by omega⟩
    · exact ⟨m, rfl, Nat.le_refl _⟩
  obtain ⟨p, rfl, hp⟩ := hd
  with_reducible conv => whnf
  exact h p v3 hp (hv3.mono (by omega))
theorem sp_row {k : Nat} {Q : FP} {X : FX} {n : Int} {v : List D} {p : Nat} (hv : DK n v) (hn : n < 2 ^ 40) (hp : p ≤ 40) (h : ∀ (F : Fo) (v' : List D), F.size = p → DK (n + 200) v' → Q (.p (.str F.row)) [some (.ol v'), some (.p (.int p))]) : wpF0 PP (k + 3) 7 [.ol v, .p (.int p)] Q X := by
  have e2 : (2 : Int) * (p : Int) = ((2 * p : Nat) : Int) := by omega
  refine wp_fn rfl rfl ?_
  with_reducible conv => whnf
  refine sp_next hv (by omega) (by decide) (by decide) fun way v1 w0 w1 hv1 => ?_
  with_reducible conv => whnf
  refine ⟨.inl ⟨by decide, by decide⟩, ?_⟩
  rw [e2]
  with_reducible conv => whnf
  refine ⟨⟨by omega, by omega, by decide, by decide, rfl⟩, ?_⟩
  have rl : (rangeN ((2 * p : Nat) : Int) 0).length = 2 * p := by unfold rangeN; rw [List.length_map, List.length_range]; omega
  have rg : ∀ {q : Nat}, q ≤ 2 * p → ((List.range (2 * p)).drop q).map (fun i : Nat => D.int (((2 * p : Nat) : Int) + (i : Nat) * (-1))) = ((List.range (2 * p)).drop q).map fun i : Nat => D.int ((2 * p : Nat) - (i : Nat) : Int) := fun {q} _ => List.map_congr_left fun i _ => by
    show D.int _ = D.int _
    congr 1
    omega
  have rg0 : rangeN ((2 * p : Nat) : Int) 0 = ((List.range (2 * p)).drop 0).map fun i : Nat => D.int ((2 * p : Nat) - (i : Nat) : Int) := by
    rw [← rg (Nat.zero_le _), List.drop_zero]
    unfold rangeN
    rw [show ((((2 * p : Nat) : Int) - 0).toNat) = 2 * p by omega]
  rw [rg0]
  refine loopW_inv (fun rest α => ∃ (v : List D) (q : Nat) (F : Fo) (st : List Fo) (x y : Option AV), α = [some (.ol v), some (.p (.int p)), some (.p (.int way)), some (.p (.str (pre (F :: st)))), some (.p (.int (st.length : Nat))), x, y] ∧ q ≤ 2 * p ∧ (pre (F :: st)).length = q ∧ st.length ≤ 2 * p - q ∧ (st.length + q) % 2 = 0 ∧ DK (n + 1 + 2 * q) v ∧ rest = ((List.range (2 * p)).drop q).map fun i : Nat => D.int ((2 * p : Nat) - (i : Nat) : Int))
    (fun x r α hI => ⟨trivial, fun k' hk => ?_⟩) (fun α hI => ⟨trivial, ?_⟩) _ _ ⟨v1, 0, .nil, [], _, _, rfl, Nat.zero_le _, rfl, Nat.zero_le _, rfl, hv1.mono (by omega), rfl⟩
  · obtain ⟨v2, q, F, st, x5, y6, rfl, hq, hl, hs, par, hv2, er⟩ := hI
    obtain ⟨hlt, rfl, er2⟩ := drop_f er
    have fin1 : ∀ (v' : List D) (x y : Option AV), (st = [] ∨ st.length < 2 * p - q) → DK (n + 1 + 2 * (q + 1)) v' → k' [some (.ol v'), some (.p (.int p)), some (.p (.int way)), some (.p (.str (pre (F :: st) ++ [40]))), some (.p (.int ((st.length : Nat) + 1))), x, y] := fun v' x y hc hv' => by
      refine hk _ ⟨v', q + 1, .nil, F :: st, x, y, by rw [pre_open]; rfl, hlt, by rw [pre_open, List.length_append, hl]; rfl, ?_, by rw [List.length_cons]; omega, hv', er2⟩
      rw [List.length_cons]
      rcases hc with rfl | hc
      · have par : (0 + q) % 2 = 0 := par
        show 0 + 1 ≤ 2 * p - (q + 1)
        omega
      · omega
    have fin2 : ∀ (v' : List D) (x y : Option AV), st ≠ [] → DK (n + 1 + 2 * (q + 1)) v' → k' [some (.ol v'), some (.p (.int p)), some (.p (.int way)), some (.p (.str (pre (F :: st) ++ [41]))), some (.p (.int ((st.length : Nat) - 1))), x, y] := fun v' x y hc hv' => by
      cases st with
      | nil => exact absurd rfl hc
      | cons G st =>
        rw [List.length_cons] at hs par
        refine hk _ ⟨v', q + 1, G.snoc [] F, st, x, y, ?_, hlt, ?_, by omega, by omega, hv', er2⟩
        · rw [← pre_shut, List.length_cons, show (((st.length + 1 : Nat) : Int) - 1) = (st.length : Nat) by omega]
        · rw [← pre_shut, List.length_append, hl]
          rfl
    unfold f_law_row_b1
    with_reducible conv => whnf
    refine sp_next hv2 (by omega) (by decide) (by decide) fun a v3 a0 a1 hv3 => ?_
    with_reducible conv => whnf
    refine sp_next hv3 (by omega) (by decide) (by decide) fun b v4 b0 b1 hv4 => ?_
    with_reducible conv => whnf
    refine ⟨Nat.le_of_ble_eq_true rfl, ?_⟩
    with_reducible conv => whnf
    refine onO_at (P := fun d => ∃ m : Int, d = .int m) (fun x hx => ?_) w0 w1 fun d hd => ?_
    · simp only [List.mem_cons, List.not_mem_nil, or_false] at hx
      rcases hx with rfl | rfl | rfl | rfl <;> exact ⟨_, rfl⟩
    obtain ⟨m, rfl⟩ := hd
    have hv5 := hv4.mono (m := n + 1 + 2 * (q + 1)) (by omega)
    have lb1 : (pre (F :: st)).length + List.length [40] ≤ big := by rw [hl, show List.length [40] = 1 from rfl]; unfold big; omega
    have lb2 : (pre (F :: st)).length + List.length [41] ≤ big := by rw [hl, show List.length [41] = 1 from rfl]; unfold big; omega
    have ne0 : ¬ ((st.length : Nat) : Int) = 0 → st ≠ [] := fun z y => z (by rw [y]; rfl)
    with_reducible conv => whnf
    refine ifB_d (fun e0 => ?_) (fun e0 => ?_)
    · have st0 : st = [] := List.length_eq_zero_iff.mp (by omega)
      with_reducible conv => whnf
      refine ⟨lb1, ?_⟩
      with_reducible conv => whnf
      exact fin1 _ _ _ (.inl st0) hv5
    · with_reducible conv => whnf
      refine ifB_d (fun e1 => ?_) (fun e1 => ?_)
      · with_reducible conv => whnf
        refine ifB_d (fun e3 => ?_) (fun e3 => ?_)
        · with_reducible conv => whnf
          refine ⟨lb1, ?_⟩
          with_reducible conv => whnf
          exact fin1 _ _ _ (.inr (by omega)) hv5
        · with_reducible conv => whnf
          refine ⟨lb2, ?_⟩
          with_reducible conv => whnf
          exact fin2 _ _ _ (ne0 e0) hv5
      · with_reducible conv => whnf
        refine ⟨lb2, ?_⟩
        with_reducible conv => whnf
        exact fin2 _ _ _ (ne0 e0) hv5
  · obtain ⟨v2, q, F, st, x5, y6, rfl, hq, hl, hs, par, hv2, er⟩ := hI
    obtain rfl := drop_fe hq er
    have st0 : st = [] := List.length_eq_zero_iff.mp (by omega)
    subst st0
    have hl : F.row.length = 2 * p := hl
    rw [Fo.row_len] at hl
    with_reducible conv => whnf
    exact h F v2 (by omega) (hv2.mono (by omega))
end K33

namespace K33
open PySem Am
theorem eqT_nil : ∀ xs : List D, eqD (.tup xs) (.tup []) = xs.isEmpty
  | [] => rfl
  | _ :: _ => rfl
theorem ifB_eq_tnil {xs : List D} {A B : Prop} (h1 : xs = [] → A) (h2 : xs ≠ [] → B) : ifB (eqD (.tup xs) (.tup [])) A B := by
  rw [eqT_nil]
  cases xs with
  | nil => exact h1 rfl
  | cons x r => exact h2 (by simp)
theorem sp_same_str {k : Nat} {Q : FP} {X : FX} {s : T} (h : Q (.p (.bl true)) [some (.p (.str s)), some (.p (.str s))]) : wpF0 PP (k + 1) 13 [.p (.str s), .p (.str s)] Q X := by
  refine wp_fn rfl rfl ?_
  with_reducible conv => whnf
  rw [show decide (s = s) = true from decide_eq_true (by first | rfl | assumption | omega)]
  exact h
theorem sp_same_int {k : Nat} {Q : FP} {X : FX} {s : Int} (h : Q (.p (.bl true)) [some (.p (.int s)), some (.p (.int s))]) : wpF0 PP (k + 1) 13 [.p (.int s), .p (.int s)] Q X := by
  refine wp_fn rfl rfl ?_
  with_reducible conv => whnf
  rw [show decide (s = s) = true from decide_eq_true (by first | rfl | assumption | omega)]
  exact h
theorem zip_self {P : D → Prop} : ∀ {xs : List D}, (∀ x ∈ xs, P x) → ∀ p ∈ zipD xs xs, ∃ x, P x ∧ p = .tup [x, x]
  | [], _, p, h => by simp [zipD] at h
  | x :: r, hx, p, h => by
    rcases List.mem_cons.mp (show p ∈ .tup [x, x] :: zipD r r from h) with e | h
    · exact ⟨x, hx x List.mem_cons_self, e⟩
    · exact zip_self (fun y hy => hx y (List.mem_cons_of_mem _ hy)) p h
theorem zipD_len : ∀ xs ys : List D, (zipD xs ys).length ≤ xs.length
  | [], _ => Nat.zero_le _
  | _ :: _, [] => Nat.zero_le _
  | _ :: r, _ :: q => Nat.succ_le_succ (zipD_len r q)
/-- same(xs, xs), where same(x, x) holds of each item -/
theorem sp_same_tup {k : Nat} {Q : FP} {X : FX} {xs : List D} (P : D → Prop) (hs : ∀ x, P x → ∀ (Q : FP) (X : FX), Q (.p (.bl true)) [some (.p x), some (.p x)] → wpF0 PP k 13 [.p x, .p x] Q X) (hp : ∀ x ∈ xs, P x) (hl : xs.length ≤ 1000) (h : Q (.p (.bl true)) [some (.p (.tup xs)), some (.p (.tup xs))]) : wpF0 PP (k + 1) 13 [.p (.tup xs), .p (.tup xs)] Q X := by
  refine wp_fn rfl rfl ?_
  with_reducible conv => whnf
  rw [show decide ((xs.length : Int) = xs.length) = true from decide_eq_true (by first | rfl | assumption | omega)]
  with_reducible conv => whnf
  have zl := zipD_len xs xs
  refine ⟨(by (try simp only [List.length_append, List.length_cons, List.length_nil, repT_len]); (try unfold big); omega), ?_⟩
  refine loopC_inv (fun rest acc α => ∃ x y, α = [some (.p (.tup xs)), some (.p (.tup xs)), x, y] ∧ acc = [] ∧ ∀ p ∈ rest, ∃ x, P x ∧ p = .tup [x, x])
      (fun x r acc α hI => ⟨⟨trivial, trivial⟩, fun k' hk => ?_⟩) (fun acc α hI => ⟨⟨trivial, trivial⟩, ?_⟩) _ _ _ ⟨_, _, rfl, rfl, zip_self hp⟩
  · obtain ⟨x2, y2, rfl, rfl, hr⟩ := hI
    obtain ⟨z, hz, rfl⟩ := hr x List.mem_cons_self
    with_reducible conv => whnf
    refine hs z hz _ _ ?_
    with_reducible conv => whnf
    exact hk _ _ ⟨_, _, rfl, rfl, fun y hy => hr y (List.mem_cons_of_mem _ hy)⟩
  · obtain ⟨x2, y2, rfl, rfl, hr⟩ := hI
    with_reducible conv => whnf
    refine ⟨Nat.zero_le _, ?_⟩
    with_reducible conv => whnf
    refine ⟨by decide, by decide, ?_⟩
    exact h
end K33

namespace K33
open PySem Am
/-- the first wrong place, or the length -/
def wr : T → Nat → Nat → Option Nat
  | [], at', o => if 0 < o then some at' else none
  | c :: r, at', o => if c = 40 then wr r (at' + 1) (o + 1) else if c = 41 ∧ 0 < o then wr r (at' + 1) (o - 1) else some at'
theorem wr_le : ∀ {l : T} {a o w : Nat}, wr l a o = some w → w ≤ a + l.length
  | [], a, o, w, h => by
    unfold wr at h
    split at h
    · cases h; simp
    · cases h
  | c :: r, a, o, w, h => by
    unfold wr at h
    split at h
    · have := wr_le h
      rw [List.length_cons]
      omega
    · split at h
      · have := wr_le h
        rw [List.length_cons]
        omega
      · cases h
        omega
/-- a good rest -/
theorem wr_ok : ∀ {l : T} {a o : Nat}, wr l a o = none → o ≤ l.length ∧ (o + l.length) % 2 = 0
  | [], a, o, h => by
    unfold wr at h
    split at h
    · cases h
    · simp only [List.length_nil]
      omega
  | c :: r, a, o, h => by
    unfold wr at h
    split at h
    · have := wr_ok h
      rw [List.length_cons]
      omega
    · split at h
      · rename_i h2
        have := wr_ok h
        rw [List.length_cons]
        omega
      · cases h
theorem wr_step {c : Nat} {r : T} {a o : Nat} (h : wr (c :: r) a o = none) : (c = 40 ∧ wr r (a + 1) (o + 1) = none) ∨ (c = 41 ∧ 0 < o ∧ wr r (a + 1) (o - 1) = none) := by
  unfold wr at h
  split at h
  · exact .inl ⟨by assumption, h⟩
  · split at h
    · rename_i h2
      exact .inr ⟨h2.1, h2.2, h⟩
    · cases h
theorem chars_enum : ∀ (l : T) (a : Nat), enumD (a : Int) (charsD l) = match l with
    | [] => []
    | c :: r => .tup [.int a, .str [c]] :: enumD ((a + 1 : Nat) : Int) (charsD r)
  | [], _ => rfl
  | c :: r, a => by
    show D.tup [.int a, .str [c]] :: enumD ((a : Int) + 1) (charsD r) = _
    rw [show ((a + 1 : Nat) : Int) = (a : Int) + 1 by omega]
theorem in_par (c : Nat) : inD (.str [c]) [.str [40], .str [41]] = decide (c = 40 ∨ c = 41) := by
  have e : inD (.str [c]) [.str [40], .str [41]] = (decide (([40] : List Nat) = [c]) || (decide (([41] : List Nat) = [c]) || false)) := rfl
  rw [e]
  by_cases h1 : c = 40
  · subst h1; simp
  · by_cases h2 : c = 41
    · subst h2; simp
    · have a : ¬ 40 = c := fun z => h1 z.symm
      have b : ¬ 41 = c := fun z => h2 z.symm
      simp [h1, h2, a, b]
theorem sgn {c : Nat} (h : c = 41) : atD [(Cst.int 1).d, D.int (-1)] (b2i (decide (([c] : List Nat) = [41]))) = some (.int (-1)) := by rw [h]; rfl
theorem sgn' {c : Nat} (h : c ≠ 41) : atD [(Cst.int 1).d, D.int (-1)] (b2i (decide (([c] : List Nat) = [41]))) = some (.int 1) := by
  rw [decide_eq_false (fun z => h (by injection z))]
  rfl
theorem one_eq {c d : Nat} : (([c] : List Nat) = [d]) ↔ c = d := ⟨fun z => by injection z, fun z => by rw [z]⟩
/-- need_row -/
theorem sp_need {k : Nat} {Q : FP} {X : FX} {row : T} (hl : row.length ≤ 81) (h : wr row 0 0 = none → Q (.p .non) [some (.p (.str row))]) (hx : ∀ w, wr row 0 0 = some w → X 1 [.int w] [some (.p (.str row))]) : wpF0 PP (k + 1) 0 [.p (.str row)] Q X := by
  refine wp_fn rfl rfl ?_
  with_reducible conv => whnf
  refine loopW_inv (fun rest α => ∃ (a o : Nat) (l : T) (x y : Option AV), α = [some (.p (.str row)), some (.p (.int o)), x, y] ∧ wr l a o = wr row 0 0 ∧ a + l.length = row.length ∧ rest = enumD (a : Int) (charsD l))
    (fun x r α hI => ⟨trivial, fun k' hk => ?_⟩) (fun α hI => ⟨trivial, ?_⟩) _ _ ⟨0, 0, row, _, _, rfl, rfl, by omega, rfl⟩
  · obtain ⟨a, o, l, x, y, rfl, ew, el, er⟩ := hI
    cases l with
    | nil => cases er
    | cons c l =>
      rw [chars_enum] at er
      cases er
      rw [List.length_cons] at el
      have bad : wr (c :: l) a o = some a → (0 ≤ (a : Int) ∧ (a : Int) < 1000) ∧ True ∧ X 1 [.int a] [some (.p (.str row))] := fun e => ⟨by omega, trivial, hx a (by rw [← ew, e])⟩
      unfold f_need_row_b1
      with_reducible conv => whnf
      refine ⟨Nat.le_of_ble_eq_true rfl, ?_⟩
      with_reducible conv => whnf
      refine ⟨Nat.zero_le _, by decide, ?_⟩
      rw [in_par]
      refine ifB_n (fun hn => ?_) (fun hy => ?_)
      · with_reducible conv => whnf
        have e1 : wr (c :: l) a o = some a := by
          unfold wr
          rw [if_neg (fun z => hn (.inl z)), if_neg (fun z => hn (.inr z.1))]
        exact bad e1
      · with_reducible conv => whnf
        refine ifB_d (fun h41 => ?_) (fun h41 => ?_)
        · have h41 := one_eq.mp h41
          subst h41
          with_reducible conv => whnf
          refine ifB_d (fun ho => ?_) (fun ho => ?_)
          · with_reducible conv => whnf
            have e1 : wr (41 :: l) a o = some a := by
              unfold wr
              rw [if_neg (by decide), if_neg (by omega)]
            exact bad e1
          · with_reducible conv => whnf
            refine ⟨Nat.le_of_ble_eq_true rfl, ?_⟩
            with_reducible conv => whnf
            rw [sgn rfl]
            with_reducible conv => whnf
            refine hk _ ⟨a + 1, o - 1, l, _, _, by rw [show (o : Int) + -1 = ((o - 1 : Nat) : Int) by omega], ?_, by omega, rfl⟩
            rw [← ew]
            rw [wr, if_neg (by decide), if_pos ⟨rfl, by omega⟩]
        · have h41 : c ≠ 41 := fun z => h41 (one_eq.mpr z)
          have h40 : c = 40 := by omega
          subst h40
          with_reducible conv => whnf
          refine ⟨Nat.le_of_ble_eq_true rfl, ?_⟩
          with_reducible conv => whnf
          rw [sgn' h41]
          with_reducible conv => whnf
          refine hk _ ⟨a + 1, o + 1, l, _, _, rfl, ?_, by omega, rfl⟩
          rw [← ew]
          rw [wr, if_pos rfl]
  · obtain ⟨a, o, l, x, y, rfl, ew, el, er⟩ := hI
    cases l with
    | cons c l =>
      rw [chars_enum] at er
      cases er
    | nil =>
      have el : a = row.length := by simpa using el
      subst el
      with_reducible conv => whnf
      refine ifB_d (fun ho => ?_) (fun ho => ?_)
      · with_reducible conv => whnf
        refine ⟨(by (try simp only [List.length_append, List.length_cons, List.length_nil, repT_len]); (try unfold big); omega), ?_⟩
        with_reducible conv => whnf
        refine ⟨⟨by omega, by omega⟩, hx _ ?_⟩
        rw [← ew]
        unfold wr
        rw [if_pos (by omega)]
      · with_reducible conv => whnf
        refine h ?_
        rw [← ew]
        unfold wr
        rw [if_neg (by omega)]
/-- the law's first wrong place -/
def oI : Option Nat → D
  | none => .non
  | some w => .int w
theorem sp_wrong {k : Nat} {Q : FP} {X : FX} {row : T} (hl : row.length ≤ 81) (h : Q (.p (oI (wr row 0 0))) [some (.p (.str row))]) : wpF0 PP (k + 1) 10 [.p (.str row)] Q X := by
  refine wp_fn rfl rfl ?_
  with_reducible conv => whnf
  refine loopW_inv (fun rest α => ∃ (a o : Nat) (l : T) (x y : Option AV), α = [some (.p (.str row)), some (.p (.int o)), x, y] ∧ wr l a o = wr row 0 0 ∧ a + l.length = row.length ∧ o ≤ a ∧ rest = enumD (a : Int) (charsD l))
    (fun x r α hI => ⟨trivial, fun k' hk => ?_⟩) (fun α hI => ⟨trivial, ?_⟩) _ _ ⟨0, 0, row, _, _, rfl, rfl, by omega, by omega, rfl⟩
  · obtain ⟨a, o, l, x, y, rfl, ew, el, ho, er⟩ := hI
    cases l with
    | nil => cases er
    | cons c l =>
      rw [chars_enum] at er
      cases er
      rw [List.length_cons] at el
      have bad : wr (c :: l) a o = some a → True ∧ Q (.p (.int a)) [some (.p (.str row))] := fun e => ⟨trivial, by rw [← ew, e] at h; exact h⟩
      unfold f_law_wrong_b1
      with_reducible conv => whnf
      refine ⟨Nat.le_of_ble_eq_true rfl, ?_⟩
      with_reducible conv => whnf
      have gk : getK (mergeD [] [(.inr [40], .int 1), (.inr [41], .int (-1))]) (.inr [c] : Key) = if c = 40 then some (D.int 1) else if c = 41 then some (.int (-1)) else none := by
        show (if (Sum.inr [40] : Key) = .inr [c] then some (D.int 1) else if (Sum.inr [41] : Key) = .inr [c] then some (D.int (-1)) else none) = _
        by_cases h1 : c = 40
        · subst h1; rfl
        · rw [if_neg (fun z => h1 (by injection z with z; injection z with z; exact z.symm)), if_neg h1]
          by_cases h2 : c = 41
          · subst h2; rfl
          · rw [if_neg (fun z => h2 (by injection z with z; injection z with z; exact z.symm)), if_neg h2]
      rw [show getK (mergeD [] [(Sum.inr [40], (Cst.int 1).d), (Sum.inr [41], D.int (-1))]) (Sum.inr [c]) = _ from gk]
      by_cases h40 : c = 40
      · subst h40
        rw [if_pos rfl]
        with_reducible conv => whnf
        rw [show decide ((o : Int) + 1 < 0) = false from decide_eq_false (by omega)]
        with_reducible conv => whnf
        refine hk _ ⟨a + 1, o + 1, l, _, _, rfl, ?_, by omega, by omega, rfl⟩
        rw [← ew]
        rw [wr, if_pos rfl]
      · rw [if_neg h40]
        by_cases h41 : c = 41
        · subst h41
          rw [if_pos rfl]
          with_reducible conv => whnf
          refine ifB_d (fun hz => ?_) (fun hz => ?_)
          · with_reducible conv => whnf
            refine bad ?_
            rw [wr, if_neg (by decide), if_neg (by omega)]
          · with_reducible conv => whnf
            refine hk _ ⟨a + 1, o - 1, l, _, _, by rw [show (o : Int) + -1 = ((o - 1 : Nat) : Int) by omega], ?_, by omega, by omega, rfl⟩
            rw [← ew]
            rw [wr, if_neg (by decide), if_pos ⟨rfl, by omega⟩]
        · rw [if_neg h41]
          with_reducible conv => whnf
          rw [show decide ((o : Int) + -99 < 0) = true from decide_eq_true (by omega)]
          with_reducible conv => whnf
          refine bad ?_
          rw [wr, if_neg h40, if_neg (fun z => h41 z.1)]
  · obtain ⟨a, o, l, x, y, rfl, ew, el, ho, er⟩ := hI
    cases l with
    | cons c l =>
      rw [chars_enum] at er
      cases er
    | nil =>
      have el : a = row.length := by simpa using el
      subst el
      with_reducible conv => whnf
      refine ifB_d (fun ho => ?_) (fun ho => ?_)
      · with_reducible conv => whnf
        refine ⟨(by (try simp only [List.length_append, List.length_cons, List.length_nil, repT_len]); (try unfold big); omega), ?_⟩
        with_reducible conv => whnf
        rw [← ew, wr, if_pos (by omega)] at h
        exact h
      · with_reducible conv => whnf
        rw [← ew, wr, if_neg (by omega)] at h
        exact h
end K33

namespace K33
open PySem Am
/-- the names, each ahead of those that it holds -/
def Fo.names : Fo → List T
  | .nil => []
  | .cons n s r => n :: (s.names ++ r.names)
theorem Fo.names_len : ∀ F : Fo, F.names.length = F.size
  | .nil => rfl
  | .cons n s r => by
    show (n :: (s.names ++ r.names)).length = s.size + r.size + 1
    rw [List.length_cons, List.length_append, Fo.names_len s, Fo.names_len r]
theorem Fo.data_dep : ∀ F : Fo, depL F.data ≤ 2 * F.dep
  | .nil => Nat.le_refl _
  | .cons n s r => by
    have h1 := Fo.data_dep s
    have h2 := Fo.data_dep r
    show max (max 0 (max (depL s.data + 1) 0) + 1) (depL r.data) ≤ 2 * max (s.dep + 1) r.dep
    omega
/-- other names -/
theorem Fo.ren : ∀ (F : Fo) (ss : List T), ss.length = F.size → ∃ G : Fo, G.row = F.row ∧ G.names = ss
  | .nil, ss, h => ⟨.nil, rfl, (List.length_eq_zero_iff.mp h).symm⟩
  | .cons n s r, [], h => absurd h (by show ¬ 0 = s.size + r.size + 1; omega)
  | .cons n s r, t0 :: t1, h => by
    have h : t1.length + 1 = s.size + r.size + 1 := h
    obtain ⟨G, g1, g2⟩ := Fo.ren s (t1.take s.size) (by rw [List.length_take]; omega)
    obtain ⟨R, r1, r2⟩ := Fo.ren r (t1.drop s.size) (by rw [List.length_drop]; omega)
    refine ⟨.cons t0 G R, ?_, ?_⟩
    · show 40 :: (G.row ++ 41 :: R.row) = 40 :: (s.row ++ 41 :: r.row)
      rw [g1, r1]
    · show t0 :: (G.names ++ R.names) = t0 :: t1
      rw [g2, r2, List.take_append_drop]
/-- a row that is right has a forest -/
theorem fo_wr : ∀ (m : Nat) (l : T) (a o : Nat), l.length ≤ m → wr l a o = none → ∃ (F : Fo) (r : T), l = F.row ++ r ∧ ((o = 0 ∧ r = []) ∨ ∃ (r' : T) (b : Nat), 0 < o ∧ r = 41 :: r' ∧ wr r' b (o - 1) = none)
  | _, [], a, o, _, h => by
    have : o = 0 := by
      unfold wr at h
      split at h
      · cases h
      · omega
    exact ⟨.nil, [], rfl, .inl ⟨this, rfl⟩⟩
  | 0, _ :: _, _, _, h, _ => absurd h (by simp)
  | m + 1, c :: l, a, o, hl, h => by
    rw [List.length_cons] at hl
    rcases wr_step h with ⟨rfl, h2⟩ | ⟨rfl, ho, h2⟩
    · obtain ⟨s, r, rfl, hs⟩ := fo_wr m l (a + 1) (o + 1) (by omega) h2
      rcases hs with ⟨z, _⟩ | ⟨r', b, _, rfl, h3⟩
      · omega
      · rw [Nat.add_sub_cancel] at h3
        rw [List.length_append, List.length_cons] at hl
        obtain ⟨G, r2, rfl, hg⟩ := fo_wr m r' b o (by omega) h3
        refine ⟨.cons [] s G, r2, ?_, hg⟩
        show 40 :: (s.row ++ 41 :: (G.row ++ r2)) = 40 :: (s.row ++ 41 :: G.row) ++ r2
        simp
    · exact ⟨.nil, 41 :: l, rfl, .inr ⟨l, a + 1, ho, rfl, h2⟩⟩
theorem fo_row {l : T} (h : wr l 0 0 = none) : ∃ F : Fo, l = F.row := by
  obtain ⟨F, r, rfl, hr⟩ := fo_wr l.length l 0 0 (Nat.le_refl _) h
  rcases hr with ⟨_, rfl⟩ | ⟨_, _, z, _⟩
  · exact ⟨F, List.append_nil _⟩
  · omega
/-- .. and with names, as many -/
theorem fo_of {l : T} {ss : List T} (h : wr l 0 0 = none) (hs : 2 * ss.length = l.length) : ∃ F : Fo, F.row = l ∧ F.names = ss := by
  obtain ⟨F, rfl⟩ := fo_row h
  have := F.row_len
  exact F.ren ss (by omega)
/-- forest_by's walk leads to the forest -/
theorem fbW_F : ∀ (G : Fo) {rest : T} {xs : List D} {n : D} {ts : List D} {st : List (D × List D)} {k : D → Prop}, fbW rest xs ((n, ts ++ G.data) :: st) k → fbW (G.row ++ rest) (G.names.map .str ++ xs) ((n, ts) :: st) k
  | .nil, rest, xs, n, ts, st, k, h => by
    have h : fbW rest xs ((n, ts ++ []) :: st) k := h
    rw [List.append_nil] at h
    exact h
  | .cons n0 s r, rest, xs, n, ts, st, k, h => by
    have h : fbW rest xs ((n, ts ++ .tup [.str n0, .tup s.data] :: r.data) :: st) k := h
    have e1 : (Fo.cons n0 s r).row ++ rest = 40 :: (s.row ++ 41 :: (r.row ++ rest)) := by
      show 40 :: (s.row ++ 41 :: r.row) ++ rest = _
      simp
    have e2 : (Fo.cons n0 s r).names.map D.str ++ xs = .str n0 :: (s.names.map .str ++ (r.names.map .str ++ xs)) := by
      show (n0 :: (s.names ++ r.names)).map D.str ++ xs = _
      simp
    rw [e1, e2]
    show fbW (s.row ++ 41 :: (r.row ++ rest)) (s.names.map .str ++ (r.names.map .str ++ xs)) ((.str n0, []) :: (n, ts) :: st) k
    refine fbW_F s ?_
    show fbW (r.row ++ rest) (r.names.map .str ++ xs) ((n, ts ++ [.tup [.str n0, .tup ([] ++ s.data)]]) :: st) k
    refine fbW_F r ?_
    rw [List.nil_append, List.append_assoc]
    exact h
theorem fbW_row (F : Fo) {k : D → Prop} (h : k (.tup F.data)) : fbW F.row (F.names.map .str) [(.str [], [])] k := by
  have := fbW_F F (rest := []) (xs := []) (n := .str []) (ts := []) (st := []) (k := k) h
  rw [List.append_nil, List.append_nil] at this
  exact this
end K33

namespace K33
open PySem Am
/-- how many are open behind the signs -/
def bal : T → Int
  | [] => 0
  | c :: r => (if c = 41 then -1 else 1) + bal r
theorem bal_app : ∀ x y : T, bal (x ++ y) = bal x + bal y
  | [], y => by show bal y = 0 + bal y; omega
  | c :: r, y => by
    show (if c = 41 then (-1 : Int) else 1) + bal (r ++ y) = (if c = 41 then (-1 : Int) else 1) + bal r + bal y
    rw [bal_app r y]
    omega
theorem Fo.bal0 : ∀ F : Fo, bal F.row = 0
  | .nil => rfl
  | .cons n s r => by
    show (if (40 : Nat) = 41 then (-1 : Int) else 1) + bal (s.row ++ 41 :: r.row) = 0
    rw [bal_app, Fo.bal0 s]
    show (1 : Int) + (0 + ((-1) + bal r.row)) = 0
    rw [Fo.bal0 r]
    rfl
theorem Fo.balT : ∀ (F : Fo) (q : Nat), 0 ≤ bal (F.row.take q)
  | .nil, q => by
    show 0 ≤ bal (([] : T).take q)
    rw [List.take_nil]
    exact Int.le_refl _
  | .cons n s r, 0 => Int.le_refl _
  | .cons n s r, q + 1 => by
    show 0 ≤ bal ((40 :: (s.row ++ 41 :: r.row)).take (q + 1))
    rw [List.take_succ_cons, List.take_append]
    show 0 ≤ (1 : Int) + bal (s.row.take q ++ (41 :: r.row).take (q - s.row.length))
    rw [bal_app]
    have h1 := Fo.balT s q
    cases hq : q - s.row.length with
    | zero =>
      rw [List.take_zero]
      show 0 ≤ (1 : Int) + (bal (s.row.take q) + 0)
      omega
    | succ p =>
      rw [List.take_succ_cons]
      show 0 ≤ (1 : Int) + (bal (s.row.take q) + ((-1) + bal (r.row.take p)))
      have h2 := Fo.balT r p
      omega
theorem cut_in (s r : T) : cut (40 :: (s ++ 41 :: r)) (some 1) (some ((s.length : Int) + 2 - 1)) = s := by
  unfold cut clip
  dsimp only
  rw [if_neg (show ¬ ((s.length : Int) + 2 - 1 < 0) by omega), if_neg (show ¬ ((1 : Int) < 0) by decide)]
  have e1 : (1 : Int).toNat = 1 := rfl
  have e2 : ((s.length : Int) + 2 - 1).toNat = s.length + 1 := by omega
  rw [e1, e2]
  simp
  try omega
theorem sp_lforest : ∀ (m : Nat) {Q : FP} {X : FX} {F : Fo} {v : AV}, (v = .p (.tup (F.names.map .str)) ∨ v = .ol (F.names.map .str)) → F.dep < m → F.size ≤ 40 → Q (.p (.tup F.data)) [none, some v] → wpF0 PP m 9 [.p (.str F.row), v] Q X
  | 0, _, _, _, _, _, h, _, _ => absurd h (Nat.not_lt_zero _)
  | m + 1, Q, X, F, v, hv, hd, hs, h => by
    have ih := fun {Q : FP} {X : FX} {F : Fo} {v : AV} => @sp_lforest m Q X F v
    have lR := F.row_len
    refine wp_fnS rfl rfl (fun _ h => h) ?_
    refine cut_S 2 (fun α => α = [some (.p (.str F.row)), some v, some (.ol []), some (.ol (F.names.map .str)), none, none, none]) (fun K hK => ?_) fun α hJ => ?_
    · rcases hv with rfl | rfl
      · with_reducible conv => whnf
        refine ⟨Nat.zero_le _, ?_⟩
        with_reducible conv => whnf
        exact hK _ rfl
      · with_reducible conv => whnf
        refine ⟨Nat.zero_le _, ?_⟩
        with_reducible conv => whnf
        exact hK _ rfl
    clear hv
    subst hJ
    with_reducible conv => whnf
    refine loopN_ex (fun α n => ∃ (ad : List D) (R : Fo) (x4 x5 x6 : Option AV), ad ++ R.data = F.data ∧ R.dep ≤ F.dep ∧ R.size ≤ 40 ∧ n = R.size ∧ α = [some (.p (.str R.row)), some v, some (.ol ad), some (.ol (R.names.map .str)), x4, x5, x6]) (m := F.size) ⟨[], F, _, _, _, rfl, Nat.le_refl _, hs, rfl, rfl⟩ fun α n hI k' hk => ?_
    obtain ⟨ad, R, x4, x5, x6, eF, rd, lr, rfl, rfl⟩ := hI
    cases R with
    | nil =>
      have eF : ad ++ [] = F.data := eF
      rw [List.append_nil] at eF
      rw [← eF] at h
      with_reducible conv => whnf
      rw [show decide (Fo.nil.row = []) = true from rfl]
      with_reducible conv => whnf
      exact h
    | cons n s r =>
      have rd : max (s.dep + 1) r.dep ≤ F.dep := rd
      have ns := s.names_len
      have eF : ad ++ (D.tup [.str n, .tup s.data] :: r.data) = F.data := eF
      have lA : ad.length ≤ 40 := by
        have h1 := congrArg List.length eF
        have h2 := F.data_len
        rw [List.length_append] at h1
        omega
      have lr : s.size + r.size + 1 ≤ 40 := lr
      have ls := s.row_len
      have lr2 := r.row_len
      obtain ⟨W, eW⟩ : ∃ W : T, W = (Fo.cons n s r).row := ⟨_, rfl⟩
      have eW2 : W = 40 :: (s.row ++ 41 :: r.row) := eW
      have at1 : ∀ {q : Nat} (hq : q < s.row.length), atD W (((q : Nat) : Int) + 1) = some s.row[q] := fun {q} hq => by
        rw [eW2, show ((q : Nat) : Int) + 1 = ((q + 1 : Nat) : Int) by omega]
        show getL (40 :: (s.row ++ 41 :: r.row)) (q + 1) = _
        rw [getL_eq]
        simp [List.getElem?_append_left hq, hq]
      have at2 : atD W (((s.row.length : Nat) : Int) + 1) = some 41 := by
        rw [eW2, show ((s.row.length : Nat) : Int) + 1 = ((s.row.length + 1 : Nat) : Int) by omega]
        show getL (40 :: (s.row ++ 41 :: r.row)) (s.row.length + 1) = _
        rw [getL_eq]
        simp
      have lW : W.length ≤ big := by rw [eW, Fo.row_len]; show 2 * (s.size + r.size + 1) ≤ big; unfold big; omega
      rw [← eW]
      with_reducible conv => whnf
      rw [show decide (W = []) = false by rw [eW2]; rfl]
      with_reducible conv => whnf
      unfold f_law_forest_b2
      with_reducible conv => whnf
      refine loopN_ex (fun α i => ∃ (o a : Int), ((∃ q : Nat, q ≤ s.row.length ∧ a = (q : Int) + 1 ∧ o = 1 + bal (s.row.take q) ∧ i = s.row.length + 1 - q) ∨ (o = 0 ∧ a = (s.row.length : Int) + 2 ∧ i = 0)) ∧ α = [some (.p (.str W)), some v, some (.ol ad), some (.ol ((Fo.cons n s r).names.map .str)), some (.p (.int o)), some (.p (.int a)), x6]) (m := s.row.length + 1) ⟨1, 1, .inl ⟨0, Nat.zero_le _, rfl, rfl, rfl⟩, rfl⟩ fun α i hI k2 hk2 => ?_
      obtain ⟨o, a, hst, rfl⟩ := hI
      with_reducible conv => whnf
      refine ifB_d (fun h0 => ?_) (fun h0 => ?_)
      · rcases hst with ⟨q, hq, rfl, rfl, rfl⟩ | ⟨rfl, _, _⟩
        · unfold f_law_forest_b1
          with_reducible conv => whnf
          refine ⟨Nat.le_of_ble_eq_true rfl, ?_⟩
          with_reducible conv => whnf
          rcases Nat.lt_or_ge q s.row.length with hlt | hge
          · have tk : s.row.take (q + 1) = s.row.take q ++ [s.row[q]] := (List.take_append_getElem hlt).symm
            have tb : bal (s.row.take (q + 1)) = bal (s.row.take q) + bal [s.row[q]] := by rw [tk, bal_app]
            refine ⟨lW, ?_⟩
            refine onO_s (at1 hlt) ?_
            generalize s.row[q] = ch at tb ⊢
            with_reducible conv => whnf
            by_cases hc : ch = 41
            · subst hc
              have tb : bal (s.row.take (q + 1)) = bal (s.row.take q) + (-1 + 0) := tb
              rw [show decide (([41] : T) = [41]) = true from rfl, show b2i true = 1 from rfl]
              with_reducible conv => whnf
              exact hk2 _ (s.row.length + 1 - (q + 1)) ⟨_, _, .inl ⟨q + 1, hlt, by omega, by rw [tb]; omega, rfl⟩, rfl⟩ (by omega)
            · have tb : bal (s.row.take (q + 1)) = bal (s.row.take q) + (1 + 0) := by
                rw [tb]
                show _ + ((if ch = 41 then (-1 : Int) else 1) + 0) = _
                rw [if_neg hc]
              rw [show decide (([ch] : T) = [41]) = false from decide_eq_false (by simpa using hc), show b2i false = 0 from rfl]
              with_reducible conv => whnf
              exact hk2 _ (s.row.length + 1 - (q + 1)) ⟨_, _, .inl ⟨q + 1, hlt, by omega, by rw [tb]; omega, rfl⟩, rfl⟩ (by omega)
          · obtain rfl : q = s.row.length := by omega
            refine ⟨lW, ?_⟩
            refine onO_s at2 ?_
            with_reducible conv => whnf
            rw [show decide (([41] : T) = [41]) = true from rfl, show b2i true = 1 from rfl]
            with_reducible conv => whnf
            have z := s.bal0
            exact hk2 _ 0 ⟨_, _, .inr ⟨by rw [List.take_length, z]; rfl, by omega, rfl⟩, rfl⟩ (by omega)
        · exact absurd h0 (by decide)
      · rcases hst with ⟨q, hq, rfl, rfl, rfl⟩ | ⟨rfl, rfl, rfl⟩
        · have := s.balT q
          exact absurd h0 (by omega)
        · have cW : cut W (some 1) (some ((s.row.length : Int) + 2 - 1)) = s.row := by rw [eW2]; exact cut_in _ _
          with_reducible conv => whnf
          refine ⟨lW, ?_⟩
          rw [cW]
          obtain ⟨t0, e0⟩ : ∃ t0 : T, t0 = n := ⟨_, rfl⟩
          obtain ⟨t1, e1⟩ : ∃ t1 : List T, t1 = s.names ++ r.names := ⟨_, rfl⟩
          have l1' : t1.length = s.size + r.size := by rw [e1, List.length_append, ns, r.names_len]
          rw [show (Fo.cons n s r).names = t0 :: t1 by rw [e0, e1]; rfl]
          with_reducible conv => whnf
          have a0 : atD ((t0 :: t1).map D.str) 0 = some (D.str t0) := rfl
          rw [a0]
          have lsb : s.row.length ≤ big := by unfold big; omega
          with_reducible conv => whnf
          refine ⟨lsb, ?_⟩
          with_reducible conv => whnf
          refine ⟨by decide, by decide, ?_⟩
          with_reducible conv => whnf
          have e2 : ((s.row.length : Nat) : Int) / 2 = (s.size : Nat) := by rw [ls]; omega
          rw [e2]
          have c1 : cut ((t0 :: t1).map D.str) (some 1) (some (1 + (s.size : Int))) = (t1.take s.size).map .str := by
            unfold cut clip
            dsimp only
            rw [if_neg (show ¬ ((1 : Int) + (s.size : Int) < 0) by omega), if_neg (show ¬ ((1 : Int) < 0) by decide)]
            have l1 : ((t0 :: t1).map D.str).length = t1.length + 1 := by simp
            rw [l1, show (1 : Int).toNat = 1 from rfl, show ((1 : Int) + (s.size : Int)).toNat = s.size + 1 by omega, Nat.min_eq_left (show 1 ≤ t1.length + 1 by omega), Nat.min_eq_left (show s.size + 1 ≤ t1.length + 1 by omega)]
            show (t1.map D.str).take (s.size + 1 - 1) = _
            rw [Nat.add_sub_cancel, List.map_take]
          have c2 : cut ((t0 :: t1).map D.str) (some (1 + (s.size : Int))) none = (t1.drop s.size).map .str := by
            rw [show (1 : Int) + (s.size : Int) = ((s.size + 1 : Nat) : Int) by omega, cut_drop _ (by rw [List.length_map, List.length_cons]; omega)]
            show (t1.map D.str).drop s.size = _
            rw [List.map_drop]
          have c3 : cut W (some ((s.row.length : Int) + 2)) none = r.row := by
            rw [show (s.row.length : Int) + 2 = ((s.row.length + 2 : Nat) : Int) by omega, cut_drop _ (by rw [eW2]; simp)]
            rw [eW2]
            show (s.row ++ 41 :: r.row).drop (s.row.length + 1) = r.row
            exact drop_mid _ _ _
          rw [c1, show t1.take s.size = s.names by rw [e1, ← ns, List.take_left]]
          refine ih (F := s) (v := .ol (s.names.map .str)) (.inr rfl) (by omega) (by omega) ?_
          with_reducible conv => whnf
          refine ⟨Nat.le_of_ble_eq_true rfl, ?_⟩
          with_reducible conv => whnf
          refine ⟨Nat.lt_of_le_of_lt lA (by unfold big; omega), ?_⟩
          with_reducible conv => whnf
          refine ⟨lsb, ?_⟩
          with_reducible conv => whnf
          refine ⟨by decide, by decide, ?_⟩
          with_reducible conv => whnf
          rw [e2, c2, show t1.drop s.size = r.names by rw [e1, ← ns, List.drop_left]]
          with_reducible conv => whnf
          refine ⟨lW, ?_⟩
          rw [c3]
          refine hk _ r.size ⟨ad ++ [.tup [.str t0, .tup s.data]], r, some (.p (.int 0)), some (.p (.int ((s.row.length : Int) + 2))), some (.p (.str s.row)), ?_, by omega, by omega, rfl, rfl⟩ (by show r.size < s.size + r.size + 1; omega)
          rw [e0, ← eF]
          simp
end K33

namespace K33
open PySem Am
/-- the first name that stood ahead already -/
def dup : List T → List T → Option T
  | _, [] => none
  | seen, x :: r => if x ∈ seen then some x else dup (seen ++ [x]) r
/-- what is told of a row and names -/
inductive Out (row : T) (ss : List T) : D → Prop where
  | rows (w : Nat) (h : wr row 0 0 = some w) : Out row ss (.tup [.str [114, 111, 119, 115], .int w])
  | name (w : T) (h : wr row 0 0 = none) (h2 : dup [] ss = some w) (h3 : w ∈ ss) : Out row ss (.tup [.str [110, 97, 109, 101], .str w])
  | place (h : wr row 0 0 = none) (h2 : dup [] ss = none) (h3 : 2 * ss.length ≠ row.length) : Out row ss (.tup [.str [112, 108, 97, 99, 101], .int 0])
  | forest (F : Fo) (h : wr row 0 0 = none) (h2 : dup [] ss = none) (h3 : 2 * ss.length = row.length) (hr : F.row = row) (hn : F.names = ss) : Out row ss (.tup [.str [102, 111, 114, 101, 115, 116], .tup F.data])
theorem dup_mem : ∀ {r seen : List T} {w : T}, dup seen r = some w → w ∈ r
  | [], _, _, h => by cases h
  | x :: r, seen, w, h => by
    unfold dup at h
    split at h
    · cases h
      exact List.mem_cons_self
    · exact List.mem_cons_of_mem _ (dup_mem h)
theorem out_ex (row : T) (ss : List T) : ∃ d, Out row ss d := by
  cases h1 : wr row 0 0 with
  | some w => exact ⟨_, .rows w h1⟩
  | none =>
    cases h2 : dup [] ss with
    | some w => exact ⟨_, .name w h1 h2 (dup_mem h2)⟩
    | none =>
      by_cases h3 : 2 * ss.length = row.length
      · obtain ⟨F, e1, e2⟩ := fo_of h1 h3
        exact ⟨_, .forest F h1 h2 h3 e1 e2⟩
      · exact ⟨_, .place h1 h2 h3⟩
theorem enum_strs (x : T) (l : List T) (a : Nat) : enumD (a : Int) ((x :: l).map .str) = .tup [.int a, .str x] :: enumD ((a + 1 : Nat) : Int) (l.map .str) := by
  show D.tup [.int a, .str x] :: enumD ((a : Int) + 1) (l.map .str) = _
  rw [show ((a + 1 : Nat) : Int) = (a : Int) + 1 by omega]
/-- need_names -/
theorem sp_needN {k : Nat} {Q : FP} {X : FX} {row : T} {ss : List T} (hr : row.length ≤ 81) (hs : ss.length ≤ 81) (hz : ∀ s ∈ ss, s.length ≤ 8) (h : dup [] ss = none → 2 * ss.length = row.length → Q (.p .non) [some (.p (.str row)), some (.p (.tup (ss.map .str)))])
    (hx : ∀ w, dup [] ss = some w → X 2 [.str w] [some (.p (.str row)), some (.p (.tup (ss.map .str)))]) (hp : dup [] ss = none → 2 * ss.length ≠ row.length → X 4 [] [some (.p (.str row)), some (.p (.tup (ss.map .str)))]) : wpF0 PP (k + 1) 1 [.p (.str row), .p (.tup (ss.map .str))] Q X := by
  refine wp_fn rfl rfl ?_
  with_reducible conv => whnf
  refine loopW_inv (fun rest α => ∃ (seen l : List T) (x y : Option AV), α = [some (.p (.str row)), some (.p (.tup (ss.map .str))), x, y] ∧ ss = seen ++ l ∧ dup seen l = dup [] ss ∧ rest = enumD (seen.length : Int) (l.map .str))
    (fun x r α hI => ⟨trivial, fun k' hk => ?_⟩) (fun α hI => ⟨trivial, ?_⟩) _ _ ⟨[], ss, _, _, rfl, rfl, rfl, rfl⟩
  · obtain ⟨seen, l, x, y, rfl, es, ed, er⟩ := hI
    cases l with
    | nil => cases er
    | cons c l =>
      rw [enum_strs] at er
      cases er
      have ct : cut (ss.map D.str) none (some (seen.length : Int)) = seen.map .str := by
        rw [cut_take, es, ← List.map_take, List.take_left]
      unfold f_need_names_b1
      with_reducible conv => whnf
      rw [ct]
      refine ⟨Nat.zero_le _, Nat.le_trans (depL_strs seen) (by decide), ?_⟩
      rw [in_strs]
      refine ifB_d (fun hy => ?_) (fun hn => ?_)
      · with_reducible conv => whnf
        refine ⟨Nat.le_trans (hz c (by rw [es]; simp)) (by decide), trivial, hx c ?_⟩
        rw [← ed, dup, if_pos hy]
      · with_reducible conv => whnf
        refine hk _ ⟨seen ++ [c], l, _, _, rfl, by rw [es]; simp, ?_, by rw [List.length_append, List.length_singleton]⟩
        rw [← ed, dup, if_neg hn]
  · obtain ⟨seen, l, x, y, rfl, es, ed, er⟩ := hI
    cases l with
    | cons c l =>
      rw [enum_strs] at er
      cases er
    | nil =>
      with_reducible conv => whnf
      refine ⟨.inl ⟨by decide, by decide⟩, ?_⟩
      with_reducible conv => whnf
      refine ⟨(by (try simp only [List.length_append, List.length_cons, List.length_nil, repT_len]); (try unfold big); omega), ?_⟩
      rw [List.length_map]
      refine ifB_n (fun hn => ?_) (fun hy => ?_)
      · with_reducible conv => whnf
        exact ⟨trivial, hp (by rw [← ed, dup]) (by omega)⟩
      · with_reducible conv => whnf
        exact h (by rw [← ed, dup]) (by omega)
/-- forest_by -/
theorem sp_fby {k : Nat} {Q : FP} {X : FX} {row : T} {ss : List T} (hr : row.length ≤ 81) (hs : ss.length ≤ 81) (hz : ∀ s ∈ ss, s.length ≤ 8) (h : ∀ F : Fo, wr row 0 0 = none → dup [] ss = none → 2 * ss.length = row.length → F.row = row → F.names = ss → Q (.p (.tup F.data)) [some (.p (.str row)), some (.p (.tup (ss.map .str)))])
    (hx : ∀ w, wr row 0 0 = some w → X 1 [.int w] [some (.p (.str row)), some (.p (.tup (ss.map .str)))]) (hx2 : ∀ w, wr row 0 0 = none → dup [] ss = some w → X 2 [.str w] [some (.p (.str row)), some (.p (.tup (ss.map .str)))]) (hp : wr row 0 0 = none → dup [] ss = none → 2 * ss.length ≠ row.length → X 4 [] [some (.p (.str row)), some (.p (.tup (ss.map .str)))]) :
    wpF0 PP (k + 2) 2 [.p (.str row), .p (.tup (ss.map .str))] Q X := by
  refine wp_fn rfl rfl ?_
  with_reducible conv => whnf
  refine sp_need hr (fun hw => ?_) (fun w hw => hx w hw)
  with_reducible conv => whnf
  refine sp_needN hr hs hz (fun h1 h2 => ?_) (fun w h1 => hx2 w hw h1) (fun h1 h2 => hp hw h1 h2)
  with_reducible conv => whnf
  refine ⟨⟨by omega, rfl, rfl, rfl, rfl, rfl, rfl, rfl, rfl⟩, ?_⟩
  obtain ⟨F, e1, e2⟩ := fo_of hw h2
  have := fbW_row F (k := fun d => Q (.p d) [some (.p (.str row)), some (.p (.tup (ss.map .str)))]) (h F hw h1 h2 e1 e2)
  rw [e1, e2] at this
  exact this
end K33

namespace K33
open PySem Am
theorem range_zero (n : Nat) : rangeD 0 (n : Int) = (List.range n).map fun i : Nat => D.int (i : Int) := by
  unfold rangeD
  rw [show ((n : Int) - 0).toNat = n by omega]
  exact List.map_congr_left fun i _ => by rw [Int.zero_add]
/-- what is due -/
theorem sp_due {k : Nat} {Q : FP} {X : FX} {row : T} {ss : List T} {d : D} (ho : Out row ss d) (hr : row.length ≤ 81) (hs : ss.length ≤ 81) (h : Q (.p d) [some (.p (.str row)), some (.p (.tup (ss.map .str)))]) :
    wpF0 PP (k + 50) 11 [.p (.str row), .p (.tup (ss.map .str))] Q X := by
  refine wp_fn rfl rfl ?_
  with_reducible conv => whnf
  refine sp_wrong hr ?_
  cases hw : wr row 0 0 with
  | some w =>
    cases ho with
    | rows w2 h1 =>
      rw [hw] at h1
      cases h1
      rw [show oI (some w) = .int w from rfl]
      with_reducible conv => whnf
      exact ⟨Nat.le_of_ble_eq_true rfl, h⟩
    | name w2 h1 _ _ => rw [hw] at h1; cases h1
    | place h1 _ _ => rw [hw] at h1; cases h1
    | forest F h1 _ _ _ _ => rw [hw] at h1; cases h1
  | none =>
    rw [show oI none = .non from rfl]
    with_reducible conv => whnf
    rw [List.length_map]
    refine ⟨⟨by omega, by omega⟩, ?_⟩
    refine loopW_inv (fun rest α => ∃ (seen l : List T) (x : Option AV), α = [some (.p (.str row)), some (.p (.tup (ss.map .str))), some (.p .non), x] ∧ ss = seen ++ l ∧ dup seen l = dup [] ss ∧ rest = ((List.range ss.length).drop seen.length).map fun i : Nat => D.int (i : Int))
      (fun x r α hI => ⟨trivial, fun k' hk => ?_⟩) (fun α hI => ⟨trivial, ?_⟩) _ _ ⟨[], ss, _, rfl, rfl, rfl, range_zero _⟩
    · obtain ⟨seen, l, x, rfl, es, ed, er⟩ := hI
      obtain ⟨hlt, rfl, rfl⟩ := drop_f er
      have e0 := congrArg List.length es
      rw [List.length_append] at e0
      cases l with
      | nil => simp at e0; omega
      | cons c l =>
        have ct : cut (ss.map D.str) none (some (seen.length : Int)) = seen.map .str := by
          rw [cut_take, es, ← List.map_take, List.take_left]
        have ca : atD (ss.map D.str) (seen.length : Int) = some (.str c) := by
          show getL (ss.map D.str) seen.length = _
          rw [getL_eq, List.getElem?_map, es, List.getElem?_append_right (Nat.le_refl _), Nat.sub_self]
          rfl
        unfold f_law_due_b1
        with_reducible conv => whnf
        rw [ca]
        with_reducible conv => whnf
        rw [ct]
        refine ⟨Nat.zero_le _, Nat.le_trans (depL_strs seen) (by decide), ?_⟩
        rw [in_strs]
        refine ifB_d (fun hy => ?_) (fun hn => ?_)
        · with_reducible conv => whnf
          rw [ca]
          with_reducible conv => whnf
          have e1 : dup [] ss = some c := by rw [← ed, dup, if_pos hy]
          cases ho with
          | rows w2 h1 => rw [hw] at h1; cases h1
          | name w2 h1 h2 _ =>
            rw [e1] at h2
            cases h2
            exact ⟨Nat.le_of_ble_eq_true rfl, trivial, h⟩
          | place h1 h2 _ => rw [e1] at h2; cases h2
          | forest F h1 h2 _ _ _ => rw [e1] at h2; cases h2
        · with_reducible conv => whnf
          refine hk _ ⟨seen ++ [c], l, _, rfl, by rw [es]; simp, ?_, by rw [List.length_append, List.length_singleton]⟩
          rw [← ed, dup, if_neg hn]
    · obtain ⟨seen, l, x, rfl, es, ed, er⟩ := hI
      have e0 := congrArg List.length es
      rw [List.length_append] at e0
      have := drop_fe (by omega) er
      have : l = [] := List.length_eq_zero_iff.mp (by omega)
      subst this
      have e1 : dup [] ss = none := by rw [← ed, dup]
      with_reducible conv => whnf
      refine ⟨.inl ⟨by decide, by decide⟩, ?_⟩
      with_reducible conv => whnf
      refine ⟨(by (try simp only [List.length_append, List.length_cons, List.length_nil, repT_len]); (try unfold big); omega), ?_⟩
      rw [List.length_map]
      refine ifB_n (fun hn => ?_) (fun hy => ?_)
      · with_reducible conv => whnf
        cases ho with
        | rows w2 h1 => rw [hw] at h1; cases h1
        | name w2 h1 h2 _ => rw [e1] at h2; cases h2
        | place h1 h2 _ => exact ⟨Nat.le_of_ble_eq_true rfl, h⟩
        | forest F h1 h2 h3 _ _ => omega
      · with_reducible conv => whnf
        cases ho with
        | rows w2 h1 => rw [hw] at h1; cases h1
        | name w2 h1 h2 _ => rw [e1] at h2; cases h2
        | place h1 h2 h3 => omega
        | forest F h1 h2 h3 h4 h5 =>
          have l1 := F.row_len
          have l2 := F.dep_le
          have l3 : F.size ≤ 40 := by rw [h4] at l1; omega
          rw [← h4, ← h5] at h ⊢
          refine sp_lforest (k + 49) (F := F) (.inl rfl) (by omega) l3 ?_
          with_reducible conv => whnf
          exact ⟨Nat.le_of_ble_eq_true rfl, h⟩
end K33

namespace K33
open PySem Am
/-- same(x, x) of forests -/
theorem sp_same_fo : ∀ (m : Nat) {k : Nat} (F : Fo) {Q : FP} {X : FX}, F.dep ≤ m → F.size ≤ 1000 → Q (.p (.bl true)) [some (.p (.tup F.data)), some (.p (.tup F.data))] → wpF0 PP (k + 2 * m + 2) 13 [.p (.tup F.data), .p (.tup F.data)] Q X
  | 0, k, F, Q, X, hd, hs, h => by
    refine sp_same_tup (k := k + 1) (fun _ => False) (fun _ z => z.elim) (fun x hx => ?_) (by have := F.data_len; omega) h
    cases F with
    | nil => cases hx
    | cons n s r => exact absurd hd (by show ¬ max (s.dep + 1) r.dep ≤ 0; omega)
  | m + 1, k, F, Q, X, hd, hs, h => by
    have ih := fun {k : Nat} (F : Fo) {Q : FP} {X : FX} => @sp_same_fo m k F Q X
    have mem : ∀ (G : Fo), G.dep ≤ m + 1 → G.size ≤ 1000 → ∀ x ∈ G.data, ∃ (n : T) (s : Fo), s.dep ≤ m ∧ s.size ≤ 1000 ∧ x = .tup [.str n, .tup s.data] := by
      intro G
      induction G with
      | nil => intro _ _ x hx; cases hx
      | cons n s r _ ihr =>
        intro gd gs x hx
        have gd : max (s.dep + 1) r.dep ≤ m + 1 := gd
        have gs : s.size + r.size + 1 ≤ 1000 := gs
        have hx : x ∈ D.tup [.str n, .tup s.data] :: r.data := hx
        rcases List.mem_cons.mp hx with rfl | hx
        · exact ⟨n, s, by omega, by omega, rfl⟩
        · exact ihr (by omega) (by omega) x hx
    refine sp_same_tup (k := k + 2 * m + 3) (fun x => ∃ (n : T) (s : Fo), s.dep ≤ m ∧ s.size ≤ 1000 ∧ x = .tup [.str n, .tup s.data]) (fun x hx Q X h => ?_) (mem F hd hs) (by have := F.data_len; omega) h
    obtain ⟨n, s, sd, sz, rfl⟩ := hx
    refine sp_same_tup (k := k + 2 * m + 2) (fun x => x = .str n ∨ x = .tup s.data) (fun x hx Q X h => ?_) (fun x hx => ?_) (Nat.le_of_ble_eq_true rfl) h
    · rcases hx with rfl | rfl
      · exact sp_same_str (k := k + 2 * m + 1) h
      · exact ih s sd sz h
    · simp only [List.mem_cons, List.not_mem_nil, or_false] at hx
      exact hx
theorem sp_same_out {k : Nat} {Q : FP} {X : FX} {row : T} {ss : List T} {d : D} (ho : Out row ss d) (hr : row.length ≤ 81) (h : Q (.p (.bl true)) [some (.p d), some (.p d)]) : wpF0 PP (k + 90) 13 [.p d, .p d] Q X := by
  cases ho with
  | rows w h1 =>
    refine sp_same_tup (k := k + 89) (fun x => x = .str [114, 111, 119, 115] ∨ x = .int w) (fun x hx Q X h => ?_) (fun x hx => by simpa using hx) (Nat.le_of_ble_eq_true rfl) h
    rcases hx with rfl | rfl
    · exact sp_same_str (k := k + 88) h
    · exact sp_same_int (k := k + 88) h
  | name w h1 h2 h3 =>
    refine sp_same_tup (k := k + 89) (fun x => x = .str [110, 97, 109, 101] ∨ x = .str w) (fun x hx Q X h => ?_) (fun x hx => by simpa using hx) (Nat.le_of_ble_eq_true rfl) h
    rcases hx with rfl | rfl
    · exact sp_same_str (k := k + 88) h
    · exact sp_same_str (k := k + 88) h
  | place h1 h2 h3 =>
    refine sp_same_tup (k := k + 89) (fun x => x = .str [112, 108, 97, 99, 101] ∨ x = .int 0) (fun x hx Q X h => ?_) (fun x hx => by simpa using hx) (Nat.le_of_ble_eq_true rfl) h
    rcases hx with rfl | rfl
    · exact sp_same_str (k := k + 88) h
    · exact sp_same_int (k := k + 88) h
  | forest F h1 h2 h3 h4 h5 =>
    have l1 := F.row_len
    have l2 := F.dep_le
    have l3 : F.size ≤ 40 := by rw [h4] at l1; omega
    refine sp_same_tup (k := k + 89) (fun x => x = .str [102, 111, 114, 101, 115, 116] ∨ x = .tup F.data) (fun x hx Q X h => ?_) (fun x hx => by simpa using hx) (Nat.le_of_ble_eq_true rfl) h
    rcases hx with rfl | rfl
    · exact sp_same_str (k := k + 88) h
    · exact sp_same_fo 40 (k := k + 7) F (by omega) (by omega) h
theorem Fo.same_pre : ∀ {F G : Fo} {x y : T}, F.row ++ 41 :: x = G.row ++ 41 :: y → F.names.length = F.names.length → (F.row = G.row ∧ x = y)
  | .nil, .nil, x, y, h, _ => ⟨rfl, by
    have h : 41 :: x = 41 :: y := h
    injection h⟩
  | .nil, .cons m t q, x, y, h, _ => by
    have h : 41 :: x = 40 :: (t.row ++ 41 :: q.row) ++ 41 :: y := h
    injection h with h _
    cases h
  | .cons n s r, .nil, x, y, h, _ => by
    have h : 40 :: (s.row ++ 41 :: r.row) ++ 41 :: x = 41 :: y := h
    injection h with h _
    cases h
  | .cons n s r, .cons m t q, x, y, h, _ => by
    have h : 40 :: (s.row ++ 41 :: r.row) ++ 41 :: x = 40 :: (t.row ++ 41 :: q.row) ++ 41 :: y := h
    injection h with _ h
    have h : s.row ++ 41 :: r.row ++ 41 :: x = t.row ++ 41 :: q.row ++ 41 :: y := h
    rw [List.append_assoc, List.append_assoc] at h
    obtain ⟨h1, h2⟩ := Fo.same_pre (F := s) (G := t) (x := r.row ++ 41 :: x) (y := q.row ++ 41 :: y) h rfl
    obtain ⟨h3, h4⟩ := Fo.same_pre (F := r) (G := q) h2 rfl
    refine ⟨?_, h4⟩
    show 40 :: (s.row ++ 41 :: r.row) = 40 :: (t.row ++ 41 :: q.row)
    rw [h1, h3]
/-- a row and names have one forest -/
theorem Fo.same : ∀ {F G : Fo}, F.row = G.row → F.names = G.names → F = G
  | .nil, .nil, _, _ => rfl
  | .nil, .cons m t q, h, _ => by cases h
  | .cons n s r, .nil, h, _ => by cases h
  | .cons n s r, .cons m t q, h, hn => by
    have h : 40 :: (s.row ++ 41 :: r.row) = 40 :: (t.row ++ 41 :: q.row) := h
    injection h with _ h
    obtain ⟨h1, h2⟩ := Fo.same_pre (F := s) (G := t) h rfl
    have hn : n :: (s.names ++ r.names) = m :: (t.names ++ q.names) := hn
    injection hn with e hn
    have l1 : s.names.length = t.names.length := by
      have := congrArg List.length h1
      rw [s.row_len, t.row_len] at this
      rw [s.names_len, t.names_len]
      omega
    obtain ⟨n1, n2⟩ := List.append_inj hn l1
    rw [e, Fo.same h1 n1, Fo.same h2 n2]
/-- what is told -/
theorem sp_told {k : Nat} {Q : FP} {X : FX} {row : T} {ss : List T} {d : D} (ho : Out row ss d) (hr : row.length ≤ 81) (hs : ss.length ≤ 81) (hz : ∀ s ∈ ss, s.length ≤ 8) (h : Q (.p d) [some (.p (.str row)), some (.p (.tup (ss.map .str)))]) :
    wpF0 PP (k + 3) 12 [.p (.str row), .p (.tup (ss.map .str))] Q X := by
  refine wp_fn rfl rfl ?_
  with_reducible conv => whnf
  refine sp_fby hr hs hz (fun F h1 h2 h3 h4 h5 => ?_) (fun w h1 => ?_) (fun w h1 h2 => ?_) (fun h1 h2 h3 => ?_)
  · cases ho with
    | rows w2 g1 => rw [h1] at g1; cases g1
    | name w2 g1 g2 _ => rw [h2] at g2; cases g2
    | place g1 g2 g3 => omega
    | forest G g1 g2 g3 g4 g5 =>
      with_reducible conv => whnf
      refine ⟨Nat.le_of_ble_eq_true rfl, ?_⟩
      have e : F = G := Fo.same (h4.trans g4.symm) (h5.trans g5.symm)
      rw [e]
      exact h
  · cases ho with
    | rows w2 g1 =>
      rw [h1] at g1
      cases g1
      rw [show (cx PP _).sub 1 0 = true from rfl]
      with_reducible conv => whnf
      rw [show anyK ((cx PP _).sub 1) [1] = true from rfl]
      rw [show anyK ((cx PP _).sub 1) [2] = false from rfl]
      rw [show anyK ((cx PP _).sub 1) [4] = false from rfl]
      refine ⟨Nat.le_of_ble_eq_true rfl, ?_⟩
      with_reducible conv => whnf
      rw [show anyK ((cx PP _).sub 1) [6] = true from rfl]
      with_reducible conv => whnf
      rw [show anyK ((cx PP _).sub 1) [5, 3] = false from rfl]
      with_reducible conv => whnf
      refine ⟨Nat.zero_le _, Nat.le_of_ble_eq_true rfl, ?_⟩
      with_reducible conv => whnf
      rw [show decide (((countD (Cst.bl true).d [D.bl true, D.bl false, D.bl false] : Nat) : Int) = 1) = true from rfl]
      with_reducible conv => whnf
      refine ⟨rfl, ?_⟩
      with_reducible conv => whnf
      exact ⟨Nat.le_of_ble_eq_true rfl, h⟩
    | name w2 g1 g2 _ => rw [h1] at g1; cases g1
    | place g1 g2 g3 => rw [h1] at g1; cases g1
    | forest G g1 g2 g3 g4 g5 => rw [h1] at g1; cases g1
  · cases ho with
    | rows w2 g1 => rw [h1] at g1; cases g1
    | name w2 g1 g2 _ =>
      rw [h2] at g2
      cases g2
      rw [show (cx PP _).sub 2 0 = true from rfl]
      with_reducible conv => whnf
      rw [show anyK ((cx PP _).sub 2) [1] = false from rfl]
      rw [show anyK ((cx PP _).sub 2) [2] = true from rfl]
      rw [show anyK ((cx PP _).sub 2) [4] = false from rfl]
      refine ⟨Nat.le_of_ble_eq_true rfl, ?_⟩
      with_reducible conv => whnf
      rw [show anyK ((cx PP _).sub 2) [6] = true from rfl]
      with_reducible conv => whnf
      rw [show anyK ((cx PP _).sub 2) [5, 3] = false from rfl]
      with_reducible conv => whnf
      refine ⟨Nat.zero_le _, Nat.le_of_ble_eq_true rfl, ?_⟩
      with_reducible conv => whnf
      rw [show decide (((countD (Cst.bl true).d [D.bl false, D.bl true, D.bl false] : Nat) : Int) = 1) = true from rfl]
      with_reducible conv => whnf
      refine ⟨rfl, ?_⟩
      with_reducible conv => whnf
      exact ⟨Nat.le_of_ble_eq_true rfl, h⟩
    | place g1 g2 g3 => rw [h2] at g2; cases g2
    | forest G g1 g2 g3 g4 g5 => rw [h2] at g2; cases g2
  · cases ho with
    | rows w2 g1 => rw [h1] at g1; cases g1
    | name w2 g1 g2 _ => rw [h2] at g2; cases g2
    | place g1 g2 g3 =>
      rw [show (cx PP _).sub 4 0 = true from rfl]
      with_reducible conv => whnf
      rw [show anyK ((cx PP _).sub 4) [1] = false from rfl]
      rw [show anyK ((cx PP _).sub 4) [2] = false from rfl]
      rw [show anyK ((cx PP _).sub 4) [4] = true from rfl]
      refine ⟨Nat.le_of_ble_eq_true rfl, ?_⟩
      with_reducible conv => whnf
      rw [show anyK ((cx PP _).sub 4) [6] = true from rfl]
      with_reducible conv => whnf
      rw [show anyK ((cx PP _).sub 4) [5, 3] = false from rfl]
      with_reducible conv => whnf
      refine ⟨Nat.zero_le _, Nat.le_of_ble_eq_true rfl, ?_⟩
      with_reducible conv => whnf
      rw [show decide (((countD (Cst.bl true).d [D.bl false, D.bl false, D.bl true] : Nat) : Int) = 1) = true from rfl]
      with_reducible conv => whnf
      exact ⟨Nat.le_of_ble_eq_true rfl, h⟩
    | forest G g1 g2 g3 g4 g5 => omega
end K33

namespace K33
open PySem Am
theorem cut_drop' {α : Type} (xs : List α) (a : Nat) : (cut xs (some (a : Int)) none).length = xs.length - a := by
  by_cases h : a ≤ xs.length
  · rw [cut_drop xs h, List.length_drop]
  · have e : clip xs.length 0 (some (a : Int)) = xs.length := by
      unfold clip
      simp only
      rw [if_neg (by omega)]
      omega
    unfold cut
    rw [e, List.drop_length]
    simp
    omega
theorem one_len {c : Nat} : List.length ([c] : List Nat) = 1 := rfl
theorem sp_spoilt {k : Nat} {Q : FP} {X : FX} {n : Int} {v : List D} {row : T} (hv : DK n v) (hn : n < 2 ^ 40) (hl : row.length ≤ 80) (h : ∀ (o : T) (v' : List D), o.length ≤ 81 → DK (n + 6) v' → Q (.p (.str o)) [some (.ol v'), some (.p (.str row))]) : wpF0 PP (k + 3) 14 [.ol v, .p (.str row)] Q X := by
  refine wp_fnS rfl rfl (fun _ h => h) ?_
  refine cut_S 4 (fun α => ∃ (v' : List D) (s : T) (a : Int) (c : Nat) (w : Int), α = [some (.ol v'), some (.p (.str row)), some (.p (.str s)), some (.p (.int a)), some (.p (.str [c])), some (.p (.int w)), none] ∧ a ≤ 79 ∧ DK (n + 5) v') (fun K hK => ?_) fun α hJ => ?_
  · with_reducible conv => whnf
    refine ⟨(by (try simp only [List.length_append, List.length_cons, List.length_nil, repT_len]); (try unfold big); omega), ?_⟩
    with_reducible conv => whnf
    refine sp_next hv (by omega) (by omega) (by omega) fun a v1 a0 a1 hv1 => ?_
    with_reducible conv => whnf
    refine ⟨(by (try simp only [List.length_append, List.length_cons, List.length_nil, repT_len]); (try unfold big); omega), ?_⟩
    with_reducible conv => whnf
    refine ⟨Nat.le_of_ble_eq_true rfl, ?_⟩
    with_reducible conv => whnf
    refine sp_next hv1 (by omega) (by decide) (by decide) fun b v2 b0 b1 hv2 => ?_
    with_reducible conv => whnf
    refine onO_at (P := fun d => ∃ P : Int, d = .int P) (fun x hx => ?_) (by omega) (by show max 0 (b - 3) < ((3 : Nat) : Int); omega) fun d hd => ?_
    · simp only [List.mem_cons, List.not_mem_nil, or_false] at hx
      rcases hx with rfl | rfl | rfl <;> exact ⟨_, rfl⟩
    obtain ⟨p, rfl⟩ := hd
    with_reducible conv => whnf
    obtain ⟨q, hq⟩ : ∃ q : Int, q = min 79 p := ⟨_, rfl⟩
    rw [← hq]
    refine ⟨Nat.le_of_ble_eq_true rfl, ?_⟩
    rw [show ((str_0.length : Nat) : Int) = 95 from rfl]
    with_reducible conv => whnf
    refine sp_next hv2 (by omega) (by decide) (by decide) fun c v3 c0 c1 hv3 => ?_
    with_reducible conv => whnf
    refine ⟨Nat.le_of_ble_eq_true rfl, ?_⟩
    refine onO_atT (s := str_0) c0 c1 fun c _ => ?_
    with_reducible conv => whnf
    refine ⟨Nat.le_of_ble_eq_true rfl, ?_⟩
    with_reducible conv => whnf
    refine sp_next hv3 (by omega) (by decide) (by decide) fun e v4 e0 e1 hv4 => ?_
    with_reducible conv => whnf
    refine onO_at (P := fun d => ∃ c : Nat, d = .str [c]) (fun x hx => ?_) e0 e1 fun d hd => ?_
    · simp only [List.mem_cons, List.not_mem_nil, or_false] at hx
      rcases hx with rfl | rfl | rfl <;> exact ⟨_, rfl⟩
    obtain ⟨z, rfl⟩ := hd
    with_reducible conv => whnf
    refine sp_next hv4 (by omega) (by decide) (by decide) fun w v5 w0 w1 hv5 => ?_
    with_reducible conv => whnf
    exact hK _ ⟨v5, _, q, z, w, rfl, by omega, hv5.mono (by omega)⟩
  obtain ⟨v', s, a, c, w, rfl, ha, hv'⟩ := hJ
  have hv2 := hv'.mono (m := n + 6) (by omega)
  have kr : row.reverse.length = row.length := List.length_reverse
  have eqs : ∀ {a : Int}, 0 ≤ a → (cut row none (some a)).length = min a.toNat row.length ∧ (cut row (some (a + 1)) none).length = row.length - (a.toNat + 1) ∧ (cut row (some a) none).length = row.length - a.toNat := fun {a} h0 => by
    obtain ⟨b, rfl⟩ := Int.eq_ofNat_of_zero_le h0
    exact ⟨cut_len1 row h0, cut_drop' row (b + 1), cut_drop' row b⟩
  refine cut_S 1 (fun α => α = [some (.ol v'), some (.p (.str row)), some (.p (.str s)), some (.p (.int a)), some (.p (.str [c])), some (.p (.int w)), none]) (fun K hK => ?_) fun α hJ => ?_
  · with_reducible conv => whnf
    refine ifB_d (fun _ => ?_) (fun _ => ?_)
    · with_reducible conv => whnf
      refine ifB_d (fun h0 => ?_) (fun _ => ?_)
      · obtain ⟨k1, k2, k3⟩ := eqs h0
        with_reducible conv => whnf
        refine ⟨(by first | (unfold big; omega) | (simp only [List.length_append, List.length_reverse, k1, k2, k3, one_len]; unfold big; omega)), ?_⟩
        with_reducible conv => whnf
        refine ⟨(by first | (unfold big; omega) | (simp only [List.length_append, List.length_reverse, k1, k2, k3, one_len]; unfold big; omega)), ?_⟩
        with_reducible conv => whnf
        refine ⟨(by first | (unfold big; omega) | (simp only [List.length_append, List.length_reverse, k1, k2, k3, one_len]; unfold big; omega)), ?_⟩
        with_reducible conv => whnf
        refine ⟨(by first | (unfold big; omega) | (simp only [List.length_append, List.length_reverse, k1, k2, k3, one_len]; unfold big; omega)), ?_⟩
        with_reducible conv => whnf
        exact h _ _ (by simp only [List.length_append, List.length_reverse, k1, k2, k3, one_len]; omega) hv2
      · with_reducible conv => whnf
        exact hK _ rfl
    · with_reducible conv => whnf
      exact hK _ rfl
  subst hJ
  refine cut_S 1 (fun α => α = [some (.ol v'), some (.p (.str row)), some (.p (.str s)), some (.p (.int a)), some (.p (.str [c])), some (.p (.int w)), none]) (fun K hK => ?_) fun α hJ => ?_
  · with_reducible conv => whnf
    refine ifB_d (fun _ => ?_) (fun _ => ?_)
    · with_reducible conv => whnf
      refine ⟨(by (try simp only [List.length_append, List.length_cons, List.length_nil, repT_len]); (try unfold big); omega), ?_⟩
      with_reducible conv => whnf
      refine ifB_d (fun hlt => ?_) (fun _ => ?_)
      · with_reducible conv => whnf
        refine ifB_d (fun h0 => ?_) (fun _ => ?_)
        · obtain ⟨k1, k2, k3⟩ := eqs h0
          with_reducible conv => whnf
          refine ⟨(by first | (unfold big; omega) | (simp only [List.length_append, List.length_reverse, k1, k2, k3, one_len]; unfold big; omega)), ?_⟩
          with_reducible conv => whnf
          refine ⟨(by first | (unfold big; omega) | (simp only [List.length_append, List.length_reverse, k1, k2, k3, one_len]; unfold big; omega)), ?_⟩
          with_reducible conv => whnf
          refine ⟨(by first | (unfold big; omega) | (simp only [List.length_append, List.length_reverse, k1, k2, k3, one_len]; unfold big; omega)), ?_⟩
          with_reducible conv => whnf
          refine ⟨(by first | (unfold big; omega) | (simp only [List.length_append, List.length_reverse, k1, k2, k3, one_len]; unfold big; omega)), ?_⟩
          with_reducible conv => whnf
          exact h _ _ (by simp only [List.length_append, List.length_reverse, k1, k2, k3, one_len]; omega) hv2
        · with_reducible conv => whnf
          exact hK _ rfl
      · with_reducible conv => whnf
        exact hK _ rfl
    · with_reducible conv => whnf
      exact hK _ rfl
  subst hJ
  refine cut_S 1 (fun α => α = [some (.ol v'), some (.p (.str row)), some (.p (.str s)), some (.p (.int a)), some (.p (.str [c])), some (.p (.int w)), none]) (fun K hK => ?_) fun α hJ => ?_
  · with_reducible conv => whnf
    refine ifB_d (fun _ => ?_) (fun _ => ?_)
    · with_reducible conv => whnf
      refine ifB_d (fun h0 => ?_) (fun _ => ?_)
      · obtain ⟨k1, k2, k3⟩ := eqs h0
        with_reducible conv => whnf
        refine ⟨(by first | (unfold big; omega) | (simp only [List.length_append, List.length_reverse, k1, k2, k3, one_len]; unfold big; omega)), ?_⟩
        with_reducible conv => whnf
        refine ⟨(by first | (unfold big; omega) | (simp only [List.length_append, List.length_reverse, k1, k2, k3, one_len]; unfold big; omega)), ?_⟩
        with_reducible conv => whnf
        refine ⟨(by first | (unfold big; omega) | (simp only [List.length_append, List.length_reverse, k1, k2, k3, one_len]; unfold big; omega)), ?_⟩
        with_reducible conv => whnf
        exact h _ _ (by simp only [List.length_append, List.length_reverse, k1, k2, k3, one_len]; omega) hv2
      · with_reducible conv => whnf
        exact hK _ rfl
    · with_reducible conv => whnf
      exact hK _ rfl
  subst hJ
  with_reducible conv => whnf
  refine ifB_d (fun _ => ?_) (fun _ => ?_)
  · with_reducible conv => whnf
    refine ⟨(by unfold big; omega), ?_⟩
    with_reducible conv => whnf
    exact h _ _ (by rw [kr]; omega) hv2
  · with_reducible conv => whnf
    refine ⟨(by (try simp only [List.length_append, List.length_cons, List.length_nil, repT_len]); (try unfold big); omega), ?_⟩
    with_reducible conv => whnf
    refine sp_next hv' (by omega) (by omega) (by omega) fun b v3 b0 b1 hv3 => ?_
    obtain ⟨k1, k2, k3⟩ := eqs b0
    with_reducible conv => whnf
    refine ⟨(by first | (unfold big; omega) | (simp only [List.length_append, List.length_reverse, k1, k2, k3, one_len]; unfold big; omega)), ?_⟩
    with_reducible conv => whnf
    refine ⟨(by first | (unfold big; omega) | (simp only [List.length_append, List.length_reverse, k1, k2, k3, one_len]; unfold big; omega)), ?_⟩
    with_reducible conv => whnf
    refine ⟨(by first | (unfold big; omega) | (simp only [List.length_append, List.length_reverse, k1, k2, k3, one_len]; unfold big; omega)), ?_⟩
    with_reducible conv => whnf
    refine ⟨(by first | (unfold big; omega) | (simp only [List.length_append, List.length_reverse, k1, k2, k3, one_len]; unfold big; omega)), ?_⟩
    with_reducible conv => whnf
    exact h _ _ (by simp only [List.length_append, List.length_reverse, k1, k3]; omega) (hv3.mono (by omega))
end K33

namespace K33
open PySem Am
/-- short names, at most forty -/
def N8 (xs : List D) : Prop := xs.length ≤ 40 ∧ Txs 8 xs
theorem Txs.map {n : Nat} : ∀ {xs : List D}, Txs n xs → ∃ ss : List T, xs = ss.map D.str ∧ ∀ s ∈ ss, s.length ≤ n
  | [], _ => ⟨[], rfl, fun _ h => by cases h⟩
  | x :: r, h => by
    obtain ⟨s, rfl, hs⟩ := h x List.mem_cons_self
    obtain ⟨ss, rfl, hss⟩ := Txs.map (xs := r) fun y hy => h y (List.mem_cons_of_mem _ hy)
    refine ⟨s :: ss, rfl, fun t ht => ?_⟩
    rcases List.mem_cons.mp ht with rfl | ht
    · exact hs
    · exact hss t ht
theorem onO_nm {ts : List D} {r : Int} {k : D → Prop} (h : Txs 8 ts) (h0 : 0 ≤ r) (h1 : r < ts.length) (hk : ∀ s : T, s.length ≤ 8 → k (.str s)) : onO (atD ts r) k :=
  onO_at (P := fun d => ∃ s : T, d = .str s ∧ s.length ≤ 8) h h0 h1 fun d ⟨s, e, hs⟩ => by
    subst e
    exact hk s hs
theorem setL_mem {α : Type} : ∀ {xs : List α} {n : Nat} {d x : α}, x ∈ setL xs n d → x ∈ xs ∨ x = d
  | [], _, _, _, h => by simp [setL] at h
  | y :: r, 0, d, x, h => by
    rcases List.mem_cons.mp (show x ∈ d :: r from h) with e | h
    · exact .inr e
    · exact .inl (List.mem_cons_of_mem _ h)
  | y :: r, n + 1, d, x, h => by
    rcases List.mem_cons.mp (show x ∈ y :: setL r n d from h) with e | h
    · exact .inl (by rw [e]; exact List.mem_cons_self)
    · rcases setL_mem h with h | h
      · exact .inl (List.mem_cons_of_mem _ h)
      · exact .inr h
theorem setL_len {α : Type} : ∀ (xs : List α) (n : Nat) (d : α), (setL xs n d).length = xs.length
  | [], _, _ => rfl
  | _ :: _, 0, _ => rfl
  | x :: r, n + 1, d => congrArg (· + 1) (setL_len r n d)
theorem N8.dep {xs : List D} (h : N8 xs) : (D.lst xs).dep ≤ 180 := Nat.le_trans (dep_lst (n := 0) fun x hx => by
  obtain ⟨s, rfl, _⟩ := h.2 x hx
  exact Nat.le_refl _) (by decide)
theorem N8.set {xs : List D} (h : N8 xs) {s : T} (hs : s.length ≤ 8) (n : Nat) : N8 (setL xs n (.str s)) := ⟨by rw [setL_len]; exact h.1, fun x hx => by
  rcases setL_mem hx with hx | rfl
  · exact h.2 x hx
  · exact ⟨s, rfl, hs⟩⟩
theorem sp_spoiltN {k : Nat} {Q : FP} {X : FX} {n : Int} {v : List D} {ss : List D} (hv : DK n v) (hn : n < 2 ^ 40) (hs : N8 ss) (h : ∀ (ts : List D) (v' : List D), N8 ts → DK (n + 20) v' → Q (.p (.tup (ts))) [some (.ol v'), some (.p (.tup (ss)))]) : wpF0 PP (k + 3) 15 [.ol v, .p (.tup (ss))] Q X := by
  refine wp_fnS rfl rfl (fun _ h => h) ?_
  refine cut_S 3 (fun α => ∃ (v' : List D) (ts : List D) (w : Int) (x : Option AV), α = [some (.ol v'), some (.p (.tup (ss))), some (.ol (ts)), some (.p (.int w)), x] ∧ N8 ts ∧ DK (n + 10) v') (fun K hK => ?_) fun α hJ => ?_
  · with_reducible conv => whnf
    refine sp_next hv (by omega) (by decide) (by decide) fun w v1 w0 w1 hv1 => ?_
    with_reducible conv => whnf
    refine ifB_d (fun hw => ?_) (fun _ => ?_)
    · with_reducible conv => whnf
      refine ⟨Nat.zero_le _, ?_⟩
      with_reducible conv => whnf
      refine ⟨hs.dep, by decide, ?_⟩
      refine ifB_ne_nil (fun hne => ?_) (fun _ => ?_)
      · with_reducible conv => whnf
        refine ⟨by decide, by decide, ?_⟩
        with_reducible conv => whnf
        have rl := range_len 0 (1 + w / 2)
        refine ⟨⟨by omega, by omega⟩, ?_⟩
        refine loopW_inv (fun rest α => ∃ (v' : List D) (ts : List D) (x : Option AV), α = [some (.ol v'), some (.p (.tup ss)), some (.ol ts), some (.p (.int w)), x] ∧ N8 ts ∧ ts ≠ [] ∧ DK (n + 10 - 3 * rest.length) v' ∧ rest.length ≤ 2)
          (fun x r α hI => ⟨trivial, fun k' hk => ?_⟩) (fun α hI => ⟨trivial, ?_⟩) _ _ ⟨v1, ss, _, rfl, hs, hne, hv1.mono (by omega), by omega⟩
        · obtain ⟨v2, ts, x, rfl, ht, hne, hv2, hr⟩ := hI
          rw [List.length_cons] at hv2 hr
          have lt : 0 < ts.length := List.length_pos_iff.mpr hne
          have l40 := ht.1
          unfold f_law_spoilt_names_b1
          with_reducible conv => whnf
          refine sp_next hv2 (by omega) (by omega) (by omega) fun a v3 a0 a1 hv3 => ?_
          with_reducible conv => whnf
          refine onO_nm ht.2 a0 a1 fun s hs => ?_
          with_reducible conv => whnf
          refine sp_next hv3 (by omega) (by omega) (by omega) fun b v4 b0 b1 hv4 => ?_
          obtain ⟨b, rfl⟩ := Int.eq_ofNat_of_zero_le b0
          have hb : b < ts.length := by omega
          have eb : getL ts b = some ts[b] := by rw [getL_eq]; simp [hb]
          refine onO_s eb ?_
          with_reducible conv => whnf
          refine hk _ ⟨_, _, _, rfl, ht.set hs b, ?_, hv4.mono (by omega), by omega⟩
          intro z
          have l0 : ts.length = 0 := by rw [← setL_len ts b (.str s), z]; rfl
          omega
        · obtain ⟨v2, ts, x, rfl, ht, hne, hv2, hr⟩ := hI
          with_reducible conv => whnf
          exact hK _ ⟨_, _, _, _, rfl, ht, hv2.mono (by simp)⟩
      · with_reducible conv => whnf
        exact hK _ ⟨_, _, _, _, rfl, hs, hv1.mono (by omega)⟩
    · with_reducible conv => whnf
      exact hK _ ⟨_, _, _, _, rfl, hs, hv1.mono (by omega)⟩
  obtain ⟨v', ts, w, x, rfl, ht, hv'⟩ := hJ
  refine cut_S 1 (fun α => ∃ (v' : List D) (ts : List D), α = [some (.ol v'), some (.p (.tup (ss))), some (.ol (ts)), some (.p (.int w)), x] ∧ N8 ts ∧ DK (n + 12) v') (fun K hK => ?_) fun α hJ => ?_
  · with_reducible conv => whnf
    refine ifB_d (fun hw => ?_) (fun _ => ?_)
    · with_reducible conv => whnf
      refine ifB_d (fun h0 => ?_) (fun _ => ?_)
      · with_reducible conv => whnf
        refine ifB_d (fun h4 => ?_) (fun _ => ?_)
        · with_reducible conv => whnf
          refine sp_next hv' (by omega) (by omega) (by omega) fun a v2 a0 a1 hv2 => ?_
          with_reducible conv => whnf
          refine sp_next hv2 (by omega) (by omega) (by omega) fun b v3 b0 b1 hv3 => ?_
          with_reducible conv => whnf
          refine onO_nm ht.2 b0 b1 fun s hs => ?_
          with_reducible conv => whnf
          refine ⟨a0, by omega, by unfold big; omega, ?_⟩
          with_reducible conv => whnf
          have l0 := ht.1
          refine hK _ ⟨_, _, rfl, ⟨?_, fun x hx => ?_⟩, hv3.mono (by omega)⟩
          · rw [List.length_insertIdx_of_le_length (by omega)]
            omega
          · rcases (List.mem_insertIdx (by omega)).mp hx with rfl | hx
            · exact ⟨s, rfl, hs⟩
            · exact ht.2 x hx
        · with_reducible conv => whnf
          exact hK _ ⟨_, _, rfl, ht, hv'.mono (by omega)⟩
      · with_reducible conv => whnf
        exact hK _ ⟨_, _, rfl, ht, hv'.mono (by omega)⟩
    · with_reducible conv => whnf
      exact hK _ ⟨_, _, rfl, ht, hv'.mono (by omega)⟩
  obtain ⟨v', ts, rfl, ht, hv'⟩ := hJ
  refine cut_S 1 (fun α => ∃ (v' : List D) (ts : List D), α = [some (.ol v'), some (.p (.tup (ss))), some (.ol (ts)), some (.p (.int w)), x] ∧ N8 ts ∧ DK (n + 14) v') (fun K hK => ?_) fun α hJ => ?_
  · with_reducible conv => whnf
    refine ifB_d (fun hw => ?_) (fun _ => ?_)
    · with_reducible conv => whnf
      refine sp_next hv' (by omega) (by omega) (by have := ht.1; omega) fun a v2 a0 a1 hv2 => ?_
      with_reducible conv => whnf
      exact hK _ ⟨_, _, rfl, ⟨Nat.le_trans (cut_len _ _ _) ht.1, ht.2.cut _ _⟩, hv2.mono (by omega)⟩
    · with_reducible conv => whnf
      exact hK _ ⟨_, _, rfl, ht, hv'.mono (by omega)⟩
  obtain ⟨v', ts, rfl, ht, hv'⟩ := hJ
  refine cut_S 1 (fun α => ∃ (v' : List D) (ts : List D), α = [some (.ol v'), some (.p (.tup (ss))), some (.ol (ts)), some (.p (.int w)), x] ∧ N8 ts ∧ DK (n + 14) v') (fun K hK => ?_) fun α hJ => ?_
  · with_reducible conv => whnf
    refine ifB_d (fun hw => ?_) (fun _ => ?_)
    · with_reducible conv => whnf
      refine ifB_d (fun h4 => ?_) (fun _ => ?_)
      · with_reducible conv => whnf
        refine ⟨(by (try simp only [List.length_append, List.length_cons, List.length_nil, repT_len]); (try unfold big); omega), ?_⟩
        with_reducible conv => whnf
        refine hK _ ⟨_, _, rfl, ⟨?_, ht.2.app (by decide)⟩, hv'.mono (by omega)⟩
        rw [List.length_append, List.length_singleton]
        omega
      · with_reducible conv => whnf
        exact hK _ ⟨_, _, rfl, ht, hv'.mono (by omega)⟩
    · with_reducible conv => whnf
      exact hK _ ⟨_, _, rfl, ht, hv'.mono (by omega)⟩
  obtain ⟨v', ts, rfl, ht, hv'⟩ := hJ
  with_reducible conv => whnf
  exact h ts v' ht (hv'.mono (by omega))
end K33

namespace K33
open PySem Am
def depth : Nat := 160
theorem fo_nil {F : Fo} (h : F.row = []) : F.data = [] := by
  cases F with
  | nil => rfl
  | cons n s r => cases h
theorem plain (ns : List Int) (hl : ns.length ≤ 63) (hb : BitsOk ns) : wpF0 PP depth 16 [.p (.lst (ns.map .int))] (fun v _ => v = .p (.bl true)) (fun _ _ _ => False) := by
  show wpF0 PP (159 + 1) 16 _ _ _
  refine wp_fnS rfl rfl (fun _ h => h) ?_
  refine cut_S 2 (fun α => ∃ (v : List D) (b c d e f g : Option AV), α = [some (.p (.lst (ns.map .int))), some (.ol v), b, c, d, e, f, g]) (fun K hK => ?_) fun α hJ => ?_
  · with_reducible conv => whnf
    refine sp_deck (k := 158) hl fun v hv => ?_
    with_reducible conv => whnf
    refine ⟨⟨by decide, by decide⟩, ?_⟩
    have rl : (rangeD 0 8).length = 8 := by rw [range_len]; rfl
    refine loopW_inv (fun rest α => ∃ (v : List D) (b c d e f g : Option AV), α = [some (.p (.lst (ns.map .int))), some (.ol v), b, c, d, e, f, g] ∧ DK (1000 * (8 - rest.length)) v ∧ rest.length ≤ 8)
      (fun x r α hI => ⟨trivial, fun k' hk => ?_⟩) (fun α hI => ⟨trivial, ?_⟩) _ _ ⟨v, _, _, _, _, _, _, rfl, by rw [rl]; exact hv, by omega⟩
    · obtain ⟨v1, b, c, d, e, f, g, rfl, hv1, hr⟩ := hI
      have hr' : r.length + 1 ≤ 8 := by simpa using hr
      rw [List.length_cons] at hv1
      unfold f_law_b3
      refine cut_S 3 (fun α => ∃ (v2 : List D) (row other : T) (ss : List T), α = [some (.p (.lst (ns.map .int))), some (.ol v2), some (.p x), some (.p (.str row)), some (.p (.tup (ss.map .str))), some (.p (.str other)), f, g] ∧ row.length ≤ 80 ∧ other.length ≤ 81 ∧ ss.length ≤ 40 ∧ (∀ s ∈ ss, s.length ≤ 8) ∧ DK (1000 * (8 - (r.length + 1 : Nat)) + 800) v2) (fun K2 hK2 => ?_) fun α hJ => ?_
      · with_reducible conv => whnf
        refine ⟨Nat.le_of_ble_eq_true rfl, ?_⟩
        with_reducible conv => whnf
        refine sp_next (k := 157) hv1 (by omega) (by decide) (by decide) fun a v2 a0 a1 hv2 => ?_
        with_reducible conv => whnf
        refine onO_at (P := fun d => ∃ m : Nat, d = .int m ∧ 4 ≤ m ∧ m ≤ 40) (fun x hx => ?_) a0 a1 fun d hd => ?_
        · simp only [List.mem_cons, List.not_mem_nil, or_false] at hx
          rcases hx with rfl | rfl | rfl
          · exact ⟨12, rfl, by decide, by decide⟩
          · exact ⟨12, rfl, by decide, by decide⟩
          · exact ⟨40, rfl, by decide, by decide⟩
        obtain ⟨m, rfl, m4, m40⟩ := hd
        with_reducible conv => whnf
        refine sp_pairs (k := 156) (m := m) hv2 (by omega) ⟨m4, m40⟩ fun p v3 hp hv3 => ?_
        with_reducible conv => whnf
        refine sp_row (k := 156) (p := p) hv3 (by omega) (by omega) fun F v4 hF hv4 => ?_
        have lF := F.row_len
        with_reducible conv => whnf
        refine ⟨(by (try simp only [List.length_append, List.length_cons, List.length_nil, repT_len]); (try unfold big); omega), ?_⟩
        with_reducible conv => whnf
        refine ⟨by decide, by decide, ?_⟩
        with_reducible conv => whnf
        refine sp_names (k := 156) hv4 (by omega) (by omega) (by omega) fun ss v5 hss nd hnm hv5 => ?_
        with_reducible conv => whnf
        refine sp_spoilt (k := 156) hv5 (by omega) (by omega) fun o v6 ho hv6 => ?_
        with_reducible conv => whnf
        exact hK2 _ ⟨v6, F.row, o, ss, rfl, by omega, ho, by omega, fun s hs => (hnm s hs).2.1, hv6.mono (by omega)⟩
      obtain ⟨v2, row, other, ss, rfl, lr, lo, lss, hss, hv2⟩ := hJ
      refine cut_S 1 (fun α => ∃ (v2 : List D) (other : T), α = [some (.p (.lst (ns.map .int))), some (.ol v2), some (.p x), some (.p (.str row)), some (.p (.tup (ss.map .str))), some (.p (.str other)), f, g] ∧ other.length ≤ 81 ∧ DK (1000 * (8 - (r.length + 1 : Nat)) + 820) v2) (fun K2 hK2 => ?_) fun α hJ => ?_
      · with_reducible conv => whnf
        refine sp_next (k := 157) hv2 (by omega) (by decide) (by decide) fun a v3 a0 a1 hv3 => ?_
        with_reducible conv => whnf
        refine ifB_d (fun _ => ?_) (fun _ => ?_)
        · with_reducible conv => whnf
          refine ⟨(by (try simp only [List.length_append, List.length_cons, List.length_nil, repT_len]); (try unfold big); omega), ?_⟩
          with_reducible conv => whnf
          refine sp_spoilt (k := 156) hv3 (by omega) (by rw [cut_len1 other (by decide)]; omega) fun o v4 ho hv4 => ?_
          with_reducible conv => whnf
          exact hK2 _ ⟨v4, o, rfl, ho, hv4.mono (by omega)⟩
        · with_reducible conv => whnf
          exact hK2 _ ⟨v3, other, rfl, lo, hv3.mono (by omega)⟩
      clear hv2 lo
      obtain ⟨v2, other, rfl, lo, hv2⟩ := hJ
      with_reducible conv => whnf
      refine ⟨Nat.le_of_ble_eq_true rfl, ?_⟩
      refine loopW_inv (fun rest α => ∃ (v2 : List D) (f g : Option AV), α = [some (.p (.lst (ns.map .int))), some (.ol v2), some (.p x), some (.p (.str row)), some (.p (.tup (ss.map .str))), some (.p (.str other)), f, g] ∧ DK (1000 * (8 - (r.length + 1 : Nat)) + 900 - 30 * rest.length) v2 ∧ rest.length ≤ 2 ∧ ∀ y ∈ rest, ∃ s : T, y = .str s ∧ s.length ≤ 81)
        (fun x2 r2 α hI => ⟨trivial, fun k2 hk2 => ?_⟩) (fun α hI => ⟨trivial, ?_⟩) _ _ ⟨v2, _, _, rfl, hv2.mono (by simp; omega), by simp, ?_⟩
      · obtain ⟨v3, f, g, rfl, hv3, lr2, hr2⟩ := hI
        obtain ⟨one, rfl, l1⟩ := hr2 _ List.mem_cons_self
        rw [List.length_cons] at hv3 lr2
        unfold f_law_b2
        with_reducible conv => whnf
        have n8 : N8 (ss.map D.str) := ⟨by rw [List.length_map]; exact lss, fun y hy => by
          obtain ⟨s, hs, rfl⟩ := List.mem_map.mp hy
          exact ⟨s, rfl, hss s hs⟩⟩
        refine sp_spoiltN (k := 156) hv3 (by omega) n8 fun ts v4 hts hv4 => ?_
        with_reducible conv => whnf
        refine ⟨Nat.le_of_ble_eq_true rfl, ?_⟩
        refine loopW_inv (fun rest α => ∃ (g : Option AV), α = [some (.p (.lst (ns.map .int))), some (.ol v4), some (.p x), some (.p (.str row)), some (.p (.tup (ss.map .str))), some (.p (.str other)), some (.p (.str one)), g] ∧ ∀ y ∈ rest, ∃ s : List D, y = .tup s ∧ N8 s)
          (fun x3 r3 α hI => ⟨trivial, fun k3 hk3 => ?_⟩) (fun α hI => ⟨trivial, ?_⟩) _ _ ⟨_, rfl, ?_⟩
        · obtain ⟨g, rfl, hr3⟩ := hI
          obtain ⟨us, rfl, hus⟩ := hr3 _ List.mem_cons_self
          obtain ⟨ws, rfl, hws⟩ := hus.2.map
          have lws : ws.length ≤ 40 := by have := hus.1; rwa [List.length_map] at this
          obtain ⟨d, ho⟩ := out_ex one ws
          unfold f_law_b1
          with_reducible conv => whnf
          refine sp_told (k := 156) ho l1 (by omega) hws ?_
          with_reducible conv => whnf
          refine sp_due (k := 109) ho l1 (by omega) ?_
          with_reducible conv => whnf
          refine sp_same_out (k := 69) ho l1 ?_
          with_reducible conv => whnf
          exact hk3 _ ⟨_, rfl, fun y hy => hr3 y (List.mem_cons_of_mem _ hy)⟩
        · obtain ⟨g, rfl, hr3⟩ := hI
          with_reducible conv => whnf
          exact hk2 _ ⟨v4, _, _, rfl, hv4.mono (by omega), by omega, fun y hy => hr2 y (List.mem_cons_of_mem _ hy)⟩
        · intro y hy
          simp only [List.mem_cons, List.not_mem_nil, or_false] at hy
          rcases hy with rfl | rfl | rfl
          · exact ⟨_, rfl, n8⟩
          · exact ⟨_, rfl, hts⟩
          · exact ⟨_, rfl, n8⟩
      · obtain ⟨v3, f, g, rfl, hv3, lr2, hr2⟩ := hI
        with_reducible conv => whnf
        exact hk _ ⟨v3, _, _, _, _, _, _, rfl, hv3.mono (by simp; omega), by omega⟩
      · intro y hy
        simp only [List.mem_cons, List.not_mem_nil, or_false] at hy
        rcases hy with rfl | rfl
        · exact ⟨_, rfl, by omega⟩
        · exact ⟨_, rfl, lo⟩
    · obtain ⟨v1, b, c, d, e, f, g, rfl, hv1, hr⟩ := hI
      with_reducible conv => whnf
      exact hK _ ⟨_, _, _, _, _, _, _, rfl⟩
  obtain ⟨v, b, c, d, e, f, g, rfl⟩ := hJ
  with_reducible conv => whnf
  refine ⟨Nat.zero_le _, ?_⟩
  with_reducible conv => whnf
  refine sp_told (k := 156) (row := [40]) (ss := []) (.rows 1 rfl) (by decide) (by decide) (fun s h => by cases h) ?_
  with_reducible conv => whnf
  refine ⟨Nat.le_of_ble_eq_true rfl, ?_⟩
  with_reducible conv => whnf
  refine ⟨by decide, by decide, ?_⟩
  rw [show eqD (.tup [.str [114, 111, 119, 115], .int ((1 : Nat) : Int)]) (.tup [(Cst.str [114, 111, 119, 115]).d, (Cst.int 1).d]) = true from rfl]
  with_reducible conv => whnf
  refine ⟨Nat.le_of_ble_eq_true rfl, ?_⟩
  with_reducible conv => whnf
  refine sp_told (k := 156) (row := [41, 40]) (ss := [[97], [97]]) (.rows 0 rfl) (by decide) (by decide) (by decide) ?_
  with_reducible conv => whnf
  refine ⟨Nat.le_of_ble_eq_true rfl, ?_⟩
  with_reducible conv => whnf
  refine ⟨by decide, by decide, ?_⟩
  rw [show eqD (.tup [.str [114, 111, 119, 115], .int ((0 : Nat) : Int)]) (.tup [(Cst.str [114, 111, 119, 115]).d, (Cst.int 0).d]) = true from rfl]
  with_reducible conv => whnf
  refine ⟨Nat.zero_le _, ?_⟩
  with_reducible conv => whnf
  refine sp_fby (k := 157) (row := []) (ss := []) (by decide) (by decide) (by decide) (fun F _ _ _ hr _ => ?_) (fun w h => by cases h) (fun w _ h => by cases h) (fun _ _ h => absurd rfl h)
  rw [fo_nil hr]
  with_reducible conv => whnf
  refine ⟨Nat.zero_le _, ?_⟩
  with_reducible conv => whnf
  refine ⟨by decide, by decide, ?_⟩
  rfl
end K33

open PySem PySem.W PyProof.Rows in
set_option maxRecDepth 100000 in
set_option maxHeartbeats 0 in
theorem PySem.Challenge.cw_heldwithin_k33_forests_of_rows_holds : PySem.Challenge.rw_heldwithin_k33_forests_of_rows.Holds := by
  w_on; o_law; k_head; (case hw => w_witness2)
  k_fill
  refine Am.law_walk (l := PySem.Challenge.rw_heldwithin_k33_forests_of_rows) (n := 63) (k := K33.depth + 2) (x := "script") rfl (by decide) rfl ⟨rfl, by decide, by decide⟩ (fun w h Y => PySem.W.kIn_of Y) ?F
  case F =>
    intro w mg fa h KX G hmg
    refine' K33.all_mk KX G hmg ?a0 ?l0 ?c0 ?k0 ?a1 ?l1 ?c1 ?k1 ?a2 ?l2 ?c2 ?k2 ?a3 ?l3 ?c3 ?k3 ?a4 ?l4 ?c4 ?k4 ?a5 ?l5 ?c5 ?k5 ?a6 ?l6 ?c6 ?k6 ?a7 ?l7 ?c7 ?k7 ?a8 ?l8 ?c8 ?k8 ?a9 ?l9 ?c9 ?k9 ?a10 ?l10 ?c10 ?k10 ?a11 ?l11 ?c11 ?k11 ?a12 ?l12 ?c12 ?k12 ?a13 ?l13 ?c13 ?k13 ?a14 ?l14 ?c14 ?k14 ?a15 ?l15 ?c15 ?k15 ?a16 ?l16 ?c16 ?k16 ?aC0 ?aC1 ?aC2 ?aC3 ?aC4 ?aC5 ?eB ?hr0 ?hs0 ?hv0 ?xL1 ?sa1 ?ii1 ?ti1 ?li1 ?ci1 ?ki1 ?xL2 ?sa2 ?ii2 ?ti2 ?li2 ?ci2 ?ki2 ?oB4 ?z_ValueError ?z_bool ?z_enumerate ?z_int ?z_isinstance ?z_len ?z_list ?z_max ?z_min ?z_range ?z_str ?z_sum ?z_tuple ?z_zip K33.plain
    (case a0 => k_is)
    (case l0 => k_is)
    (case c0 => k_is)
    (case k0 => k_is)
    (case a1 => k_is)
    (case l1 => k_is)
    (case c1 => k_is)
    (case k1 => k_is)
    (case a2 => k_is)
    (case l2 => k_is)
    (case c2 => k_is)
    (case k2 => k_is)
    (case a3 => k_is)
    (case l3 => k_is)
    (case c3 => k_is)
    (case k3 => k_is)
    (case a4 => k_is)
    (case l4 => k_is)
    (case c4 => k_is)
    (case k4 => k_is)
    (case a5 => k_is)
    (case l5 => k_is)
    (case c5 => k_is)
    (case k5 => k_is)
    (case a6 => k_is)
    (case l6 => k_is)
    (case c6 => k_is)
    (case k6 => k_is)
    (case a7 => k_is)
    (case l7 => k_is)
    (case c7 => k_is)
    (case k7 => k_is)
    (case a8 => k_is)
    (case l8 => k_is)
    (case c8 => k_is)
    (case k8 => k_is)
    (case a9 => k_is)
    (case l9 => k_is)
    (case c9 => k_is)
    (case k9 => k_is)
    (case a10 => k_is)
    (case l10 => k_is)
    (case c10 => k_is)
    (case k10 => k_is)
    (case a11 => k_is)
    (case l11 => k_is)
    (case c11 => k_is)
    (case k11 => k_is)
    (case a12 => k_is)
    (case l12 => k_is)
    (case c12 => k_is)
    (case k12 => k_is)
    (case a13 => k_is)
    (case l13 => k_is)
    (case c13 => k_is)
    (case k13 => k_is)
    (case a14 => k_is)
    (case l14 => k_is)
    (case c14 => k_is)
    (case k14 => k_is)
    (case a15 => k_is)
    (case l15 => k_is)
    (case c15 => k_is)
    (case k15 => k_is)
    (case a16 => k_is)
    (case l16 => k_is)
    (case c16 => k_is)
    (case k16 => k_is)
    (case aC0 => k_is)
    (case aC1 => k_is)
    (case aC2 => k_is)
    (case aC3 => k_is)
    (case aC4 => k_is)
    (case aC5 => k_is)
    (case eB => kernel_rfl)
    (case hr0 => k_is)
    (case hs0 => k_is)
    (case hv0 => k_is)
    (case xL1 => k_is)
    (case sa1 => k_is)
    (case ii1 => k_is)
    (case ti1 => k_is)
    (case li1 => k_is)
    (case ci1 => k_is)
    (case ki1 => k_is)
    (case xL2 => k_is)
    (case sa2 => k_is)
    (case ii2 => k_is)
    (case ti2 => k_is)
    (case li2 => k_is)
    (case ci2 => k_is)
    (case ki2 => k_is)
    (case oB4 => unfold Am.ExcOwn0; kernel_rfl)
    (case z_ValueError => k_is)
    (case z_bool => k_is)
    (case z_enumerate => k_is)
    (case z_int => k_is)
    (case z_isinstance => k_is)
    (case z_len => k_is)
    (case z_list => k_is)
    (case z_max => k_is)
    (case z_min => k_is)
    (case z_range => k_is)
    (case z_str => k_is)
    (case z_sum => k_is)
    (case z_tuple => k_is)
    (case z_zip => k_is)
#print axioms PySem.Challenge.cw_heldwithin_k33_forests_of_rows_holds
