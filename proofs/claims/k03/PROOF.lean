import PyProof.Rows.All
import Wide.All
import OpenK.AllK
import Wide.FinOn
import HandS.ForMost
import HandS.Iter
import HandS.ForExc
import HandS.TupAny
import HandS.Wide
import HandS.TupMul
import HandS.Gcd
import HandS.IsInst
import HandS.Flt
import PyProof.ReprRoads
import HandS.Defaults
import HandS.Style
import HandS.Exc
import KE.GoesEnum
import HandS.Zip
import HandS.Rev
import PyProof.FactsLen
import HandS.Ends
import HandS.HeadEnd
import HandS.WideBits
import HandS.Dict
import HandS.Evl
import KE.KStateDown
import KE.OsRun
import HandS.More
import HandS.Words
import HandS.WordsExc
import HandS.Head0
import HandS.Head1
import HandS.Head2
import HandS.HeadHook1
import HandS.HeadHook2
import PyProof.ReprLen
import PyProof.Rows.RegStrFacts
import PySem.Challenge.RW_unsureworks_k03_polynomials_by_their_val
set_option Elab.async false
set_option linter.all false
set_option maxRecDepth 100000
set_option maxHeartbeats 4000000
section
/-! Un: a small language over plain data, its meaning as what must hold ahead (a predicate of the wish behind). -/
namespace Un
open PySem

/-- what an expression comes to: data; a list that nobody holds yet; a list that a slot holds; the law's source of numbers -/
inductive AV where
  | d (x : PyData) | new (xs : List PyData) | bor (xs : List PyData) | src
/-- what a slot holds -/
inductive SV where
  | un | d (x : PyData) | own (xs : List PyData) | src
def AV.dat? : AV → Option PyData
  | .d x => some x
  | .new xs => some (.list xs)
  | .bor xs => some (.list xs)
  | .src => none
/-- the items of what is unpacked -/
def AV.items? : AV → Option (List PyData)
  | .d (.tuple xs) => some xs
  | .d (.list xs) => some xs
  | .new xs => some xs
  | .bor xs => some xs
  | _ => none
/-- what may be laid into another thing -/
def AV.emb? : AV → Option PyData
  | .d x => some x
  | .new xs => some (.list xs)
  | _ => none
def argOf : AV → SV
  | .d x => .d x
  | .new xs => .d (.list xs)
  | .bor xs => .d (.list xs)
  | .src => .src
def AV.isBor : AV → Bool
  | .bor _ => true
  | _ => false
mutual
/-- no list within -/
def bare : PyData → Bool
  | .list _ => false
  | .dict _ => false
  | .tuple xs => bareAll xs
  | _ => true
def bareAll : List PyData → Bool
  | [] => true
  | x :: xs => bare x && bareAll xs
end
def embs? : List AV → Option (List PyData)
  | [] => some []
  | a :: r => match a.emb?, embs? r with
    | some x, some xs => some (x :: xs)
    | _, _ => none


inductive O2 where
  | add | sub | mul | fdiv | mod | pow | eq | ne | lt | le | gt | ge | idx
inductive O1 where
  | neg | isN | notN | len | int | abs | repr | list | tuple | all | any | isInt | isBool | isTuple | isStr
inductive O3 where
  | max | min | gcd
inductive Tg where
  | nm (i : Nat) | tp (ts : List Nat)
inductive E where
  | dat (d : PyData)
  | var (i : Nat)
  | bin (o : O2) (a b : E)
  | un (o : O1) (a : E)
  | fn2 (o : O3) (a b : E)
  | max3 (a b c : E)
  | band (a b : E) | bor (a b : E) | bnot (a : E)
  | ife (c a b : E)
  | tup (es : E) | lst (es : E)
  | slc (a lo hi : E)
  | rev (a : E)
  | call (f : Nat) (perm : List Nat) (es ks : E)
  | cmp (own : List Nat) (elt : E) (tg : Tg) (it : E) (c : E)
  | rng1 (a : E) | rng2 (a b : E) | rng3 (a b c : E) | enu (a : E) | zip2 (a b : E) | rvd (a : E)
  | no | nil | cons (a r : E)
inductive Sm where
  | set (i : Nat) (e : E)
  | unp (is : List Nat) (e : E)
  | par (is : List Nat) (es : E)
  | put (i : Nat) (j e : E)
  | app (i : Nat) (e : E)
  | ret (e : E) | retN
  | drop (e : E)
  | ifs (c : E) (a b : Sm)
  | loop (tg : Tg) (it : E) (b : Sm)
  | whl (c : E) (b : Sm)
  | brk | cnt | pass
  | frz (i : Nat)
  | nil | cons (s r : Sm)

abbrev KA := AV → Prop
/-- what is wanted of an error: its class by number, its fields -/
abbrev KX := Nat → List PyData → Prop
abbrev FE := Nat → List SV → KA → KX → Prop

/-! ### by values -/
def MulOk (i j : Int) : Prop := (-(2 ^ 64) < i ∧ i < 2 ^ 64) ∨ (-(2 ^ 64) < j ∧ j < 2 ^ 64) ∨ i.natAbs.log2 + j.natAbs.log2 < 1000000
def DivOk (j : Int) : Prop := j ≠ 0 ∧ j.natAbs.log2 < 9000
def PowOk (i j : Int) : Prop := 0 ≤ j ∧ j ≤ 1000000 ∧ i.natAbs < 2 ^ 64
abbrev ixOf : Nat → Int → Option Nat := L2.ixN
abbrev atIx {α : Type} (xs : List α) (i : Int) : Option α := L2.atI xs i
def shp (d : PyData) : Prop := SeqAt.shaped d = true
def b2 (o : O2) (x y : PyData) (k : KA) : Prop :=
  match o with
  | .add => (match x, y with
    | .int i, .int j => k (.d (.int (i + j)))
    | .str a, .str b => a.length + b.length ≤ sizeLine ∧ k (.d (.str (a ++ b)))
    | .list xs, .list ys => xs.length + ys.length ≤ sizeLine ∧ k (.new (xs ++ ys))
    | .tuple xs, .tuple ys => xs.length + ys.length ≤ sizeLine ∧ k (.d (.tuple (xs ++ ys)))
    | _, _ => False)
  | .sub => (match x, y with
    | .int i, .int j => k (.d (.int (i - j)))
    | _, _ => False)
  | .mul => (match x, y with
    | .int i, .int j => MulOk i j ∧ k (.d (.int (i * j)))
    | .list xs, .int n => (-(2 ^ 63) ≤ n ∧ n < 2 ^ 63 ∧ xs.length * n.toNat ≤ sizeLine) ∧ k (.new (List.replicate n.toNat xs).flatten)
    | .tuple xs, .int n => (-(2 ^ 63) ≤ n ∧ n < 2 ^ 63 ∧ xs.length * n.toNat ≤ sizeLine) ∧ k (.d (.tuple (List.replicate n.toNat xs).flatten))
    | _, _ => False)
  | .fdiv => (match x, y with
    | .int i, .int j => DivOk j ∧ k (.d (.int (i.fdiv j)))
    | _, _ => False)
  | .mod => (match x, y with
    | .int i, .int j => j ≠ 0 ∧ k (.d (.int (i.fmod j)))
    | _, _ => False)
  | .pow => (match x, y with
    | .int i, .int j => PowOk i j ∧ k (.d (.int (i ^ j.toNat)))
    | _, _ => False)
  | .eq => (match x, y with
    | .str a, .str b => k (.d (.bool (decide (a = b))))
    | _, _ => shp x ∧ shp y ∧ k (.d (.bool (PyData.eqv x y))))
  | .ne => (match x, y with
    | .str a, .str b => k (.d (.bool (!decide (a = b))))
    | _, _ => shp x ∧ shp y ∧ k (.d (.bool (!PyData.eqv x y))))
  | .lt => (match x, y with
    | .int i, .int j => k (.d (.bool (decide (i < j))))
    | _, _ => False)
  | .le => (match x, y with
    | .int i, .int j => k (.d (.bool (decide (i ≤ j))))
    | _, _ => False)
  | .gt => (match x, y with
    | .int i, .int j => k (.d (.bool (decide (j < i))))
    | _, _ => False)
  | .ge => (match x, y with
    | .int i, .int j => k (.d (.bool (decide (j ≤ i))))
    | _, _ => False)
  | .idx => (match x, y with
    | .list xs, .int i => ∃ v, atIx xs i = some v ∧ k (.d v)
    | .tuple xs, .int i => ∃ v, atIx xs i = some v ∧ k (.d v)
    | _, _ => False)
def w2 (o : O2) (a b : AV) (k : KA) : Prop := ∃ x y, a.dat? = some x ∧ b.dat? = some y ∧ b2 o x y k
def boolsOf : List PyData → Option (List Bool)
  | [] => some []
  | .bool b :: r => (boolsOf r).map (b :: ·)
  | _ :: _ => none
def ShowOk (d : PyData) : Prop := d.showable = true ∧ d.hasDict = false ∧ d.depth ≤ 64 ∧ d.shown.length ≤ sizeLine
def b1 (o : O1) (x : PyData) (k : KA) : Prop :=
  match o with
  | .neg => (match x with
    | .int i => k (.d (.int (-i)))
    | _ => False)
  | .isN => (match x with
    | .none => k (.d (.bool true))
    | _ => k (.d (.bool false)))
  | .notN => (match x with
    | .none => k (.d (.bool false))
    | _ => k (.d (.bool true)))
  | .len => (match x with
    | .list xs => k (.d (.int xs.length))
    | .tuple xs => k (.d (.int xs.length))
    | .str z => z.length ≤ sizeLine ∧ k (.d (.int z.length))
    | _ => False)
  | .int => (match x with
    | .int i => k (.d (.int i))
    | .bool b => k (.d (.int (if b then 1 else 0)))
    | _ => False)
  | .abs => (match x with
    | .int i => k (.d (.int (if i < 0 then -i else i)))
    | _ => False)
  | .repr => ShowOk x ∧ k (.d (.str x.shown))
  | .list => (match x with
    | .list xs => k (.new xs)
    | .tuple xs => k (.new xs)
    | _ => False)
  | .tuple => (match x with
    | .list xs => k (.d (.tuple xs))
    | .tuple xs => k (.d (.tuple xs))
    | _ => False)
  | .all => (match x with
    | .list xs => ∃ bs, boolsOf xs = some bs ∧ k (.d (.bool (bs.all id)))
    | _ => False)
  | .any => (match x with
    | .list xs => ∃ bs, boolsOf xs = some bs ∧ k (.d (.bool (bs.any id)))
    | _ => False)
  | .isInt => (match x with
    | .int _ => k (.d (.bool true))
    | .bool _ => k (.d (.bool true))
    | .dict _ => False
    | _ => k (.d (.bool false)))
  | .isBool => (match x with
    | .bool _ => k (.d (.bool true))
    | .dict _ => False
    | _ => k (.d (.bool false)))
  | .isTuple => (match x with
    | .tuple _ => k (.d (.bool true))
    | .dict _ => False
    | _ => k (.d (.bool false)))
  | .isStr => (match x with
    | .str _ => k (.d (.bool true))
    | .dict _ => False
    | _ => k (.d (.bool false)))
def w1 (o : O1) (a : AV) (k : KA) : Prop := ∃ x, a.dat? = some x ∧ b1 o x k
def b3 (o : O3) (i j : Int) : Int :=
  match o with
  | .max => if j > i then j else i
  | .min => if j < i then j else i
  | .gcd => (Nat.gcd i.natAbs j.natAbs : Nat)
def w3 (o : O3) (a b : AV) (k : KA) : Prop := ∃ i j, a = .d (.int i) ∧ b = .d (.int j) ∧ k (.d (.int (b3 o i j)))
def max3W (a b c : AV) (k : KA) : Prop := ∃ i j l, a = .d (.int i) ∧ b = .d (.int j) ∧ c = .d (.int l) ∧ k (.d (.int (b3 .max (b3 .max i j) l)))
def truthW (a : AV) (k : Bool → Prop) : Prop := ∃ x, a.dat? = some x ∧ (match x with
  | .none => k false
  | .bool b => k b
  | .int i => k (i != 0)
  | .str z => z.length ≤ sizeLine ∧ k (z.length != 0)
  | .list xs => k (!xs.isEmpty)
  | .tuple xs => k (!xs.isEmpty)
  | .dict _ => False)
def seqW (a : AV) (k : List PyData → Prop) : Prop := ∃ x, a.emb? = some x ∧ (match x with
  | .list xs => k xs
  | .tuple xs => k xs
  | _ => False)
def seq2W (a b : AV) (k : List PyData → List PyData → Prop) : Prop := ∃ x y, a.emb? = some x ∧ b.emb? = some y ∧ (match x, y with
  | .list xs, .list ys => k xs ys
  | .tuple xs, .tuple ys => k xs ys
  | _, _ => False)
def cut {α : Type} (xs : List α) (lo hi : Option Int) : List α := (xs.drop (HT.sIx xs.length 0 lo)).take (HT.sIx xs.length xs.length hi - HT.sIx xs.length 0 lo)
def slcW (a : AV) (lo hi : Option Int) (k : KA) : Prop := ∃ x, a.dat? = some x ∧ (match x with
  | .list xs => k (.new (cut xs lo hi))
  | .tuple xs => k (.d (.tuple (cut xs lo hi)))
  | _ => False)
def revW (a : AV) (k : KA) : Prop := ∃ x, a.dat? = some x ∧ (match x with
  | .list xs => k (.new xs.reverse)
  | .tuple xs => k (.d (.tuple xs.reverse))
  | _ => False)
def intW (a : AV) (k : Int → Prop) : Prop := ∃ i, a = .d (.int i) ∧ k i
def RngOk (i : Int) : Prop := -(2 ^ 62) ≤ i ∧ i < 2 ^ 62
/-- lo, lo + c, .. (n of them) -/
def rngL (lo c : Int) (n : Nat) : List PyData := (List.range n).map fun (t : Nat) => .int (lo + (t : Int) * c)
def enuL : Nat → List PyData → List PyData
  | _, [] => []
  | i, x :: xs => .tuple [.int i, x] :: enuL (i + 1) xs
def zipL : List PyData → List PyData → List PyData
  | x :: xs, y :: ys => .tuple [x, y] :: zipL xs ys
  | _, _ => []
/-- some of a list, in another order -/
def permL {α : Type} (l : List α) : List Nat → Option (List α)
  | [] => some []
  | i :: r => match l[i]?, permL l r with
    | some a, some as => some (a :: as)
    | _, _ => none
/-- a def is called; a list that a slot holds may be handed in where what comes back holds no list, and nothing is raised -/
def callW (fe : FE) (x : KX) (f : Nat) (bor : Bool) (args : List SV) (k : KA) : Prop :=
  if bor = true then fe f args (fun r => ∃ y, r = .d y ∧ bare y = true ∧ k r) (fun _ _ => False) else fe f args k x
/-- a slot is set -/
def setW (ρ : List SV) (i : Nat) (a : AV) (k : List SV → Prop) : Prop :=
  match a with
  | .d x => k (ρ.set i (.d x))
  | .new xs => k (ρ.set i (.own xs))
  | .src => k (ρ.set i .src)
  | .bor _ => False
def setD : List Nat → List PyData → List SV → Option (List SV)
  | [], [], ρ => some ρ
  | i :: is, x :: xs, ρ => setD is xs (ρ.set i (.d x))
  | _, _, _ => none
def setA : List Nat → List AV → List SV → (List SV → Prop) → Prop
  | [], [], ρ, k => k ρ
  | i :: is, a :: as, ρ, k => setW ρ i a fun ρ' => setA is as ρ' k
  | _, _, _, _ => False
def tgt : Tg → PyData → List SV → Option (List SV)
  | .nm i, x, ρ => some (ρ.set i (.d x))
  | .tp is, .tuple xs, ρ => setD is xs ρ
  | .tp is, .list xs, ρ => setD is xs ρ
  | _, _, _ => none
def wipeS (ρ : List SV) : List Nat → List SV
  | [] => ρ
  | v :: vs => (wipeS ρ vs).set v .un
def varW (ρ : List SV) (i : Nat) (k : KA) : Prop :=
  match ρ[i]? with
  | some (.d x) => k (.d x)
  | some (.own xs) => k (.bor xs)
  | some .src => k .src
  | _ => False

/-! ### expressions -/
/-- the four readings of a phrase: a value, arguments, a test, what is walked -/
structure D4 where
  v : List SV → KA → Prop
  l : List SV → (List AV → Prop) → Prop
  t : List SV → (Bool → Prop) → Prop
  i : List SV → (List PyData → Prop) → Prop
  o : List SV → (Option Int → Prop) → Prop
def D4.ofV (v : List SV → KA → Prop) : D4 where
  v := v
  l := fun _ _ => False
  t := fun ρ k => v ρ fun a => truthW a k
  i := fun ρ k => v ρ fun a => seqW a k
  o := fun ρ k => v ρ fun a => intW a fun n => k (some n)
def D4.ofI (i : List SV → (List PyData → Prop) → Prop) : D4 where
  v := fun _ _ => False
  l := fun _ _ => False
  t := fun _ _ => False
  i := i
  o := fun _ _ => False
/-- a comprehension's turns: what is gathered -/
def cmpW (tg : Tg) (c : Option (List SV → (Bool → Prop) → Prop)) (e : List SV → KA → Prop) (ρ : List SV) : List PyData → List PyData → (List PyData → Prop) → Prop
  | [], acc, k => k acc
  | x :: xs, acc, k => ∃ ρ1, tgt tg x ρ = some ρ1 ∧
    (match c with
    | none => e ρ1 fun a => ∃ y, a.emb? = some y ∧ acc.length < sizeLine ∧ cmpW tg c e ρ xs (acc ++ [y]) k
    | some t => t ρ1 fun b => if b = true then e ρ1 fun a => ∃ y, a.emb? = some y ∧ acc.length < sizeLine ∧ cmpW tg c e ρ xs (acc ++ [y]) k else cmpW tg c e ρ xs acc k)
def eLen : E → Nat
  | .cons _ r => eLen r + 1
  | _ => 0
def isNo : E → Bool
  | .no => true
  | _ => false
def ev (fe : FE) : KX → E → D4
  | _, .dat d => .ofV fun _ k => k (.d d)
  | _, .var i => .ofV fun ρ k => varW ρ i k
  | x, .bin o a b => .ofV fun ρ k => (ev fe x a).v ρ fun p => (ev fe x b).v ρ fun q => w2 o p q k
  | x, .un o a => .ofV fun ρ k => (ev fe x a).v ρ fun p => w1 o p k
  | x, .fn2 o a b => .ofV fun ρ k => (ev fe x a).v ρ fun p => (ev fe x b).v ρ fun q => w3 o p q k
  | x, .max3 a b c => .ofV fun ρ k => (ev fe x a).v ρ fun p => (ev fe x b).v ρ fun q => (ev fe x c).v ρ fun r => max3W p q r k
  | x, .band a b => { D4.ofV (fun ρ k => (ev fe x a).v ρ fun p => ∃ c, p = .d (.bool c) ∧ if c = true then (ev fe x b).v ρ k else k (.d (.bool false))) with
      t := fun ρ k => (ev fe x a).t ρ fun c => if c = true then (ev fe x b).t ρ k else k false }
  | x, .bor a b => { D4.ofV (fun ρ k => (ev fe x a).v ρ fun p => ∃ c, p = .d (.bool c) ∧ if c = true then k (.d (.bool true)) else (ev fe x b).v ρ k) with
      t := fun ρ k => (ev fe x a).t ρ fun c => if c = true then k true else (ev fe x b).t ρ k }
  | x, .bnot a => { D4.ofV (fun ρ k => (ev fe x a).v ρ fun p => ∃ c, p = .d (.bool c) ∧ k (.d (.bool (!c)))) with
      t := fun ρ k => (ev fe x a).t ρ fun c => k (!c) }
  | x, .ife c a b => .ofV fun ρ k => (ev fe x c).t ρ fun t => if t = true then (ev fe x a).v ρ k else (ev fe x b).v ρ k
  | x, .tup es => .ofV fun ρ k => (ev fe x es).l ρ fun as => ∃ xs, embs? as = some xs ∧ xs.length ≤ sizeLine ∧ k (.d (.tuple xs))
  | x, .lst es => .ofV fun ρ k => (ev fe x es).l ρ fun as => ∃ xs, embs? as = some xs ∧ xs.length ≤ sizeLine ∧ k (.new xs)
  | x, .slc a lo hi => .ofV fun ρ k => (ev fe x a).v ρ fun p => (ev fe x lo).o ρ fun l => (ev fe x hi).o ρ fun h => slcW p l h k
  | x, .rev a => .ofV fun ρ k => (ev fe x a).v ρ fun p => revW p k
  | x, .call f perm es ks => .ofV fun ρ k => (ev fe x es).l ρ fun as => as.length = eLen es ∧ (ev fe x ks).l ρ fun bs => bs.length = eLen ks ∧ ∃ cs, permL ((as ++ bs).map argOf) perm = some cs ∧ callW fe x f ((as ++ bs).any AV.isBor) cs k
  | x, .cmp own elt tg it c => .ofV fun ρ k => (ev fe x it).i ρ fun xs =>
      cmpW tg (if isNo c = true then none else some (ev fe (fun _ _ => False) c).t) (ev fe (fun _ _ => False) elt).v (wipeS ρ own) xs [] fun ys => k (.new ys)
  | x, .rng1 a => .ofI fun ρ k => (ev fe x a).v ρ fun p => intW p fun n => RngOk n ∧ k (rngL 0 1 n.toNat)
  | x, .rng2 a b => .ofI fun ρ k => (ev fe x a).v ρ fun p => (ev fe x b).v ρ fun q => intW p fun m => intW q fun n => (RngOk m ∧ RngOk n) ∧ k (rngL m 1 (n - m).toNat)
  | x, .rng3 a b c => .ofI fun ρ k => (ev fe x a).v ρ fun p => (ev fe x b).v ρ fun q => (ev fe x c).v ρ fun r => intW p fun m => intW q fun n => intW r fun s =>
      ∃ c, L2.RgC m n s c ∧ k (rngL m s c)
  | x, .enu a => .ofI fun ρ k => (ev fe x a).v ρ fun p => seqW p fun xs => k (enuL 0 xs)
  | x, .zip2 a b => .ofI fun ρ k => (ev fe x a).v ρ fun p => (ev fe x b).v ρ fun q => seq2W p q fun xs ys => k (zipL xs ys)
  | x, .rvd a => .ofI fun ρ k => (ev fe x a).v ρ fun p => seqW p fun xs => k xs.reverse
  | _, .no => { D4.ofI (fun _ _ => False) with o := fun _ k => k none }
  | _, .nil => { D4.ofI (fun _ _ => False) with l := fun _ k => k [] }
  | x, .cons a r => { D4.ofI (fun _ _ => False) with l := fun ρ k => (ev fe x a).v ρ fun p => (ev fe x r).l ρ fun ps => k (p :: ps) }

/-! ### statements -/
inductive Fl where
  | nx (ρ : List SV) | rt (a : AV) | bk (ρ : List SV) | ct (ρ : List SV)
abbrev KF := Fl → Prop
def loopW (tg : Tg) (f : List SV → KF → Prop) : List PyData → List SV → KF → Prop
  | [], ρ, k => k (.nx ρ)
  | x :: xs, ρ, k => ∃ ρ1, tgt tg x ρ = some ρ1 ∧ f ρ1 fun fl => match fl with
    | .nx ρ2 => loopW tg f xs ρ2 k
    | .ct ρ2 => loopW tg f xs ρ2 k
    | .bk ρ2 => k (.nx ρ2)
    | .rt a => k (.rt a)
def whlW (c : List SV → (Bool → Prop) → Prop) (f : List SV → KF → Prop) : Nat → List SV → KF → Prop
  | 0, _, _ => False
  | n + 1, ρ, k => c ρ fun t => if t = true then f ρ (fun fl => match fl with
    | .nx ρ2 => whlW c f n ρ2 k
    | .ct ρ2 => whlW c f n ρ2 k
    | .bk ρ2 => k (.nx ρ2)
    | .rt a => k (.rt a)) else k (.nx ρ)
def ex (fe : FE) (x : KX) : Sm → List SV → KF → Prop
  | .set i e, ρ, k => (ev fe x e).v ρ fun a => setW ρ i a fun ρ' => k (.nx ρ')
  | .unp is e, ρ, k => (ev fe x e).v ρ fun a => ∃ xs, a.items? = some xs ∧ ∃ ρ', setD is xs ρ = some ρ' ∧ k (.nx ρ')
  | .par is es, ρ, k => (ev fe x es).l ρ fun as => setA is as ρ fun ρ' => k (.nx ρ')
  | .put i j e, ρ, k => (ev fe x e).v ρ fun a => ∃ y, a.emb? = some y ∧ ∃ xs, ρ[i]? = some (.own xs) ∧
      (ev fe x j).v ρ fun p => intW p fun n => ∃ m, ixOf xs.length n = some m ∧ k (.nx (ρ.set i (.own (xs.set m y))))
  | .app i e, ρ, k => ∃ xs, ρ[i]? = some (.own xs) ∧ (ev fe x e).v ρ fun a => ∃ y, a.emb? = some y ∧ xs.length < sizeLine ∧ k (.nx (ρ.set i (.own (xs ++ [y]))))
  | .ret e, ρ, k => (ev fe x e).v ρ fun a => k (.rt a)
  | .retN, _, k => k (.rt (.d .none))
  | .drop e, ρ, k => (ev fe x e).v ρ fun _ => k (.nx ρ)
  | .ifs c a b, ρ, k => (ev fe x c).t ρ fun t => if t = true then ex fe x a ρ k else ex fe x b ρ k
  | .loop tg it b, ρ, k => (ev fe x it).i ρ fun xs => loopW tg (ex fe x b) xs ρ k
  | .whl c b, ρ, k => ∃ n, whlW (ev fe x c).t (ex fe x b) n ρ k
  | .brk, ρ, k => k (.bk ρ)
  | .cnt, ρ, k => k (.ct ρ)
  | .pass, ρ, k => k (.nx ρ)
  | .frz i, ρ, k => ∃ xs, ρ[i]? = some (.own xs) ∧ k (.nx (ρ.set i (.d (.list xs))))
  | .nil, ρ, k => k (.nx ρ)
  | .cons s r, ρ, k => ex fe x s ρ fun fl => match fl with
    | .nx ρ' => ex fe x r ρ' k
    | o => k o
def leaveW (a : AV) (k : KA) : Prop :=
  match a with
  | .d y => k (.d y)
  | .new xs => k (.new xs)
  | .bor xs => k (.new xs)
  | .src => False
/-- a def's worth: p parameters, n slots -/
def runF (fe : FE) (p n : Nat) (b : Sm) (args : List SV) (k : KA) (x : KX) : Prop := args.length = p ∧
  ex fe x b (args ++ List.replicate (n - p) .un) fun fl => match fl with
    | .nx _ => k (.d .none)
    | .rt a => leaveW a k
    | _ => False
/-- a number below n is drawn -/
def drawW (args : List SV) (k : KA) (_ : KX) : Prop := ∃ n : Int, args = [.src, .d (.int n)] ∧ 0 < n ∧ n.natAbs.log2 < 9000 ∧ ∀ r, 0 ≤ r → r < n → k (.d (.int r))
abbrev noX : KX := fun _ _ => False
/-- the law's slots behind its first statement -/
def ρLaw (n : Nat) : List SV := .un :: .src :: List.replicate n .un
end Un
end
section
/-! Un: how plain data stands in the abstract heap; what a step may change. -/
namespace Un
open PySem PySem.Spec L2

mutual
inductive Dq (K : PySem.W.Frag) (H : Hp) : V → PyData → Prop
  | non : Dq K H .non .none
  | bl (b : Bool) : Dq K H (.bl b) (.bool b)
  | int (i : Int) : Dq K H (.int i) (.int i)
  | str (x : Str) : Dq K H (.str x) (.str x)
  | lst {a : Addr} {xs : List V} {ds : List PyData} : H a = some (.lst xs) → DqAll K H xs ds → Dq K H (.ref a) (.list ds)
  | tup {a : Addr} {xs : List V} {ds : List PyData} : SqT K H a xs → DqAll K H xs ds → Dq K H (.ref a) (.tuple ds)
inductive DqAll (K : PySem.W.Frag) (H : Hp) : List V → List PyData → Prop
  | nil : DqAll K H [] []
  | cons {v : V} {vs : List V} {d : PyData} {ds : List PyData} : Dq K H v d → DqAll K H vs ds → DqAll K H (v :: vs) (d :: ds)
end
section
variable {K : PySem.W.Frag} {H H' : Hp}
theorem sqT_mono {a : Addr} {xs : List V} (e : Same H H') (h : SqT K H a xs) : SqT K H' a xs := by
  rcases h with (h | ⟨o, h⟩) | h
  · exact .inl (.inl (e _ _ h))
  · exact .inl (.inr ⟨o, e _ _ h⟩)
  · exact .inr h
mutual
theorem Dq.mono (e : Same H H') : ∀ (d : PyData) (v : V), Dq K H v d → Dq K H' v d
  | .none, _, h => by cases h; exact .non
  | .bool b, _, h => by cases h; exact .bl b
  | .int i, _, h => by cases h; exact .int i
  | .str x, _, h => by cases h; exact .str x
  | .list ds, _, h => by
    cases h with
    | lst h1 h2 => exact .lst (e _ _ h1) (DqAll.mono e ds _ h2)
  | .tuple ds, _, h => by
    cases h with
    | tup h1 h2 => exact .tup (sqT_mono e h1) (DqAll.mono e ds _ h2)
  | .dict _, _, h => by cases h
theorem DqAll.mono (e : Same H H') : ∀ (ds : List PyData) (vs : List V), DqAll K H vs ds → DqAll K H' vs ds
  | [], _, h => by cases h; exact .nil
  | d :: ds, _, h => by
    cases h with
    | cons h1 h2 => exact .cons (Dq.mono e d _ h1) (DqAll.mono e ds _ h2)
end
mutual
theorem Dq.dp : ∀ (d : PyData) (v : V), Dq K H v d → Dp K H v d
  | .none, _, h => by cases h; exact .non
  | .bool b, _, h => by cases h; exact .bl b
  | .int i, _, h => by cases h; exact .int i
  | .str x, _, h => by cases h; exact .str x
  | .list ds, _, h => by
    cases h with
    | lst h1 h2 => exact .lst (SqL.of h1) (DqAll.dp ds _ h2)
  | .tuple ds, _, h => by
    cases h with
    | tup h1 h2 => exact .tup h1 (DqAll.dp ds _ h2)
  | .dict _, _, h => by cases h
theorem DqAll.dp : ∀ (ds : List PyData) (vs : List V), DqAll K H vs ds → DpAll K H vs ds
  | [], _, h => by cases h; exact .nil
  | d :: ds, _, h => by
    cases h with
    | cons h1 h2 => exact .cons (Dq.dp d _ h1) (DqAll.dp ds _ h2)
end
/-- the heap without the list at a -/
def off (H : Hp) (a : Addr) : Hp := fun b => if b = a then none else H b
mutual
/-- a thing without lists within does not lean on a list -/
theorem Dq.off {a : Addr} {ys : List V} (ha : H a = some (.lst ys)) : ∀ (d : PyData) (v : V), bare d = true → Dq K H v d → Dq K (off H a) v d
  | .none, _, _, h => by cases h; exact .non
  | .bool b, _, _, h => by cases h; exact .bl b
  | .int i, _, _, h => by cases h; exact .int i
  | .str x, _, _, h => by cases h; exact .str x
  | .list ds, _, hb, _ => by simp [bare] at hb
  | .tuple ds, _, hb, h => by
    cases h with
    | tup h1 h2 =>
      rename_i b xs
      refine .tup ?_ (DqAll.off ha ds _ (by simpa [bare] using hb) h2)
      rcases h1 with (h1 | ⟨o, h1⟩) | h1
      · refine .inl (.inl ?_)
        have hne : ¬ b = a := by
          rintro rfl
          rw [ha] at h1
          cases h1
        unfold Un.off
        rw [if_neg hne]
        exact h1
      · refine .inl (.inr ⟨o, ?_⟩)
        have hne : ¬ b = a := by
          rintro rfl
          rw [ha] at h1
          cases h1
        unfold Un.off
        rw [if_neg hne]
        exact h1
      · exact .inr h1
  | .dict _, _, _, h => by cases h
theorem DqAll.off {a : Addr} {ys : List V} (ha : H a = some (.lst ys)) : ∀ (ds : List PyData) (vs : List V), bareAll ds = true → DqAll K H vs ds → DqAll K (off H a) vs ds
  | [], _, _, h => by cases h; exact .nil
  | d :: ds, _, hb, h => by
    cases h with
    | cons h1 h2 =>
      have hb' : bare d = true ∧ bareAll ds = true := by simpa [bareAll] using hb
      exact .cons (Dq.off ha d _ hb'.1 h1) (DqAll.off ha ds _ hb'.2 h2)
end
theorem DqAll.len : ∀ {vs : List V} {ds : List PyData}, DqAll K H vs ds → vs.length = ds.length
  | _, _, .nil => rfl
  | _, _, .cons _ t => by rw [List.length_cons, List.length_cons, DqAll.len t]
theorem DqAll.get : ∀ {vs : List V} {ds : List PyData} {i : Nat} {d : PyData}, DqAll K H vs ds → ds[i]? = some d → ∃ v, vs[i]? = some v ∧ Dq K H v d
  | _, _, _, _, .nil, e => by simp at e
  | _, _, 0, _, .cons r _, e => by
    simp at e
    subst e
    exact ⟨_, rfl, r⟩
  | _, _, i + 1, d, .cons _ t, e => by
    obtain ⟨v, h1, h2⟩ := DqAll.get (i := i) (d := d) t (by simpa using e)
    exact ⟨v, by simpa using h1, h2⟩
theorem DqAll.append : ∀ {vs ws : List V} {ds es : List PyData}, DqAll K H vs ds → DqAll K H ws es → DqAll K H (vs ++ ws) (ds ++ es)
  | _, _, _, _, .nil, s => s
  | _, _, _, _, .cons r t, s => .cons r (DqAll.append t s)
theorem DqAll.take : ∀ {vs : List V} {ds : List PyData} (n : Nat), DqAll K H vs ds → DqAll K H (vs.take n) (ds.take n)
  | _, _, 0, _ => .nil
  | _, _, _ + 1, .nil => .nil
  | _, _, n + 1, .cons r t => .cons r (DqAll.take n t)
theorem DqAll.drop : ∀ {vs : List V} {ds : List PyData} (n : Nat), DqAll K H vs ds → DqAll K H (vs.drop n) (ds.drop n)
  | _, _, 0, r => r
  | _, _, _ + 1, .nil => .nil
  | _, _, n + 1, .cons _ t => DqAll.drop n t
theorem DqAll.set {v : V} {d : PyData} (r : Dq K H v d) : ∀ {vs : List V} {ds : List PyData} (i : Nat), DqAll K H vs ds → DqAll K H (vs.set i v) (ds.set i d)
  | _, _, _, .nil => .nil
  | _, _, 0, .cons _ t => .cons r t
  | _, _, i + 1, .cons q t => .cons q (DqAll.set r i t)
theorem DqAll.snoc {v : V} {d : PyData} {vs : List V} {ds : List PyData} (h : DqAll K H vs ds) (r : Dq K H v d) : DqAll K H (vs ++ [v]) (ds ++ [d]) := h.append (.cons r .nil)
theorem DqAll.reverse : ∀ {vs : List V} {ds : List PyData}, DqAll K H vs ds → DqAll K H vs.reverse ds.reverse
  | _, _, .nil => .nil
  | _, _, .cons r t => by
    rw [List.reverse_cons, List.reverse_cons]
    exact (DqAll.reverse t).snoc r
theorem DqAll.rep {vs : List V} {ds : List PyData} (h : DqAll K H vs ds) : ∀ n : Nat, DqAll K H (List.replicate n vs).flatten (List.replicate n ds).flatten
  | 0 => .nil
  | n + 1 => by
    rw [List.replicate_succ, List.replicate_succ, List.flatten_cons, List.flatten_cons]
    exact h.append (DqAll.rep h n)
theorem DqAll.cut {vs : List V} {ds : List PyData} (h : DqAll K H vs ds) (lo hi : Option Int) : DqAll K H (cutV vs lo hi) (cut ds lo hi) := by
  unfold cutV Un.cut
  rw [h.len]
  exact (h.drop _).take _
theorem DqAll.at_ {vs : List V} {ds : List PyData} {i : Int} {d : PyData} (h : DqAll K H vs ds) (e : atIx ds i = some d) : ∃ v, atI vs i = some v ∧ Dq K H v d := by
  unfold atIx at e
  unfold L2.atI at e ⊢
  rw [h.len]
  cases q : ixN ds.length i with
  | none =>
    rw [q] at e
    cases e
  | some j =>
    rw [q] at e
    exact h.get e
end

/-! ### the source of numbers: a thing of the heap that its own defs change -/
structure Loc where
  p : Addr
  foot : Addr → Prop
  ok : Hp → Prop
  mono : ∀ H H', ok H → (∀ a, foot a → H' a = H a) → ok H'
  dom : ∀ H a, ok H → foot a → H a ≠ none
/-- a step: what is tracked stays but for the source; what is fixed grows by new things alone -/
structure Grow (L : Loc) (Hi H Hi' H' : Hp) : Prop where
  keep : ∀ a o, H a = some o → ¬ L.foot a → H' a = some o
  dom : ∀ a, H' a = none → H a = none
  mono : Same Hi Hi'
  sub : Same Hi' H'
  fr : ∀ a, Hi' a ≠ none → Hi a = none → H a = none
theorem Grow.refl {L : Loc} {Hi H : Hp} (s : Same Hi H) : Grow L Hi H Hi H := ⟨fun _ _ h _ => h, fun _ h => h, Same.refl _, s, fun _ h1 h2 => absurd h2 h1⟩
theorem Grow.trans {L : Loc} {Hi H Hi1 H1 Hi2 H2 : Hp} (a : Grow L Hi H Hi1 H1) (b : Grow L Hi1 H1 Hi2 H2) : Grow L Hi H Hi2 H2 where
  keep := fun x o h n => b.keep x o (a.keep x o h n) n
  dom := fun x h => a.dom x (b.dom x h)
  mono := a.mono.trans b.mono
  sub := b.sub
  fr := fun x h1 h2 => by
    cases q : Hi1 x with
    | none => exact a.dom x (b.fr x h1 q)
    | some o => exact a.fr x (by rw [q]; simp) h2
/-- a new thing is laid, fixed at once -/
theorem Grow.laid {L : Loc} {Hi H : Hp} {p : Addr} {o : HO} (s : Same Hi H) (hp : H p = none) : Grow L Hi H (upd Hi p o) (upd H p o) where
  keep := fun x u h _ => by rw [upd_ne (ne_of_none h hp)]; exact h
  dom := fun x h => by
    by_cases e : x = p
    · rw [e]; exact hp
    · rw [upd_ne e] at h; exact h
  mono := fun x u h => by rw [upd_ne (ne_of_none (s x u h) hp)]; exact h
  sub := fun x u h => by
    by_cases e : x = p
    · rw [e] at h ⊢
      rw [upd_same] at h ⊢
      exact h
    · rw [upd_ne e] at h ⊢
      exact s x u h
  fr := fun x h1 h2 => by
    by_cases e : x = p
    · rw [e]; exact hp
    · rw [upd_ne e] at h1
      exact absurd h2 h1
/-- a new thing is laid, not fixed -/
theorem Grow.laid' {L : Loc} {Hi H : Hp} {p : Addr} {o : HO} (s : Same Hi H) (hp : H p = none) : Grow L Hi H Hi (upd H p o) where
  keep := fun x u h _ => by rw [upd_ne (ne_of_none h hp)]; exact h
  dom := fun x h => by
    by_cases e : x = p
    · rw [e]; exact hp
    · rw [upd_ne e] at h; exact h
  mono := Same.refl _
  sub := fun x u h => by rw [upd_ne (ne_of_none (s x u h) hp)]; exact s x u h
  fr := fun x h1 h2 => absurd h2 h1
/-- a thing that stands is fixed from now on -/
theorem Grow.fixed {L : Loc} {Hi0 B Hi H : Hp} {p : Addr} {o : HO} (g : Grow L Hi0 B Hi H) (hp : H p = some o) (hb : B p = none) (hn : Hi p = none) : Grow L Hi0 B (upd Hi p o) H where
  keep := g.keep
  dom := g.dom
  mono := fun x u h => by
    have q := g.mono x u h
    rw [upd_ne (ne_of_none q hn)]
    exact q
  sub := fun x u h => by
    by_cases e : x = p
    · rw [e] at h ⊢
      rw [upd_same] at h
      rw [hp]
      exact h
    · rw [upd_ne e] at h
      exact g.sub x u h
  fr := fun x h1 h2 => by
    by_cases e : x = p
    · rw [e]; exact hb
    · rw [upd_ne e] at h1
      exact g.fr x h1 h2
/-- a thing of one's own is changed -/
theorem Grow.wrote {L : Loc} {Hi0 B Hi H : Hp} {p : Addr} {o : HO} (g : Grow L Hi0 B Hi H) (hb : B p = none) (hn : Hi p = none) : Grow L Hi0 B Hi (upd H p o) where
  keep := fun x u h n => by rw [upd_ne (ne_of_none h hb)]; exact g.keep x u h n
  dom := fun x h => by
    by_cases e : x = p
    · rw [e, upd_same] at h
      cases h
    · rw [upd_ne e] at h
      exact g.dom x h
  mono := g.mono
  sub := fun x u h => by rw [upd_ne (ne_of_none h hn)]; exact g.sub x u h
  fr := g.fr
theorem Grow.same {L : Loc} {Hi0 B Hi H H' : Hp} (g : Grow L Hi0 B Hi H) (s : Same H H') : Grow L Hi0 B Hi H' where
  keep := fun x o h n => s x o (g.keep x o h n)
  dom := fun x h => g.dom x (s.free h)
  mono := g.mono
  sub := g.sub.trans s
  fr := g.fr

/-- where an expression's worth stands. B: the heap at the def's entry; Hs: at the expression's start -/
def AvOk (K : PySem.W.Frag) (L : Loc) (B Hs Hi H : Hp) (v : V) : AV → Prop
  | .d x => Dq K Hi v x
  | .new xs => ∃ a vs, v = .ref a ∧ Hs a = none ∧ Hi a = none ∧ H a = some (.lst vs) ∧ DqAll K Hi vs xs
  | .bor xs => ∃ a vs, v = .ref a ∧ B a = none ∧ Hi a = none ∧ H a = some (.lst vs) ∧ DqAll K Hi vs xs
  | .src => v = .ref L.p
/-- where a slot's worth stands -/
def SvOk (K : PySem.W.Frag) (L : Loc) (B Hi H : Hp) (v : Option V) : SV → Prop
  | .un => True
  | .d x => ∃ u, v = some u ∧ Dq K Hi u x
  | .own xs => ∃ a vs, v = some (.ref a) ∧ B a = none ∧ Hi a = none ∧ H a = some (.lst vs) ∧ DqAll K Hi vs xs
  | .src => v = some (.ref L.p)
def isOwn : SV → Bool
  | .own _ => true
  | _ => false
/-- the state of a def: its entry (Hi0, B), now (Hi, H), the slots -/
structure Rel (K : PySem.W.Frag) (L : Loc) (Hi0 B Hi : Hp) (σ : L2.St) (H : Hp) (ρ : List SV) : Prop where
  g : Grow L Hi0 B Hi H
  src : L.ok H
  srcB : L.ok B
  av0 : ∀ a, L.foot a → Hi0 a = none
  len : ρ.length = σ.length
  slot : ∀ (i : Nat) r, ρ[i]? = some r → ∃ v, σ[i]? = some v ∧ SvOk K L B Hi H v r
  apart : ∀ (i j : Nat) (r q : SV) (a : Addr), i ≠ j → ρ[i]? = some r → ρ[j]? = some q → isOwn r = true → isOwn q = true → σ[i]? = some (some (V.ref a)) → σ[j]? = some (some (V.ref a)) → False
section
variable {K : PySem.W.Frag} {L : Loc} {Hi0 B Hi H Hi' H' Hs His : Hp} {σ : L2.St} {ρ : List SV}
theorem Loc.nofoot (h : L.ok B) : ∀ p, B p = none → ¬ L.foot p := fun p hp f => L.dom B p h f hp
theorem Grow.avoid (g : Grow L Hi0 B Hi H) (h0 : ∀ a, L.foot a → Hi0 a = none) (hb : ∀ a, L.foot a → B a ≠ none) : ∀ a, L.foot a → Hi a = none := fun a ha => by
  cases q : Hi a with
  | none => rfl
  | some o => exact absurd (g.fr a (by rw [q]; simp) (h0 a ha)) (hb a ha)
theorem AvOk.mono {v : V} {a : AV} (h : AvOk K L B Hs Hi H v a) (g : Grow L Hi H Hi' H') (hn : ∀ p, Hs p = none → ¬ L.foot p) (hbn : ∀ p, B p = none → ¬ L.foot p) : AvOk K L B Hs Hi' H' v a := by
  have new : ∀ p vs, Hi p = none → H p = some (.lst vs) → Hi' p = none := fun p vs h1 h2 => by
    cases q : Hi' p with
    | none => rfl
    | some o =>
      have := g.fr p (by rw [q]; simp) h1
      rw [h2] at this
      cases this
  cases a with
  | d x => exact Dq.mono g.mono _ _ h
  | new xs =>
    obtain ⟨p, vs, e, h1, h2, h3, h4⟩ := h
    exact ⟨p, vs, e, h1, new p vs h2 h3, g.keep p _ h3 (hn p h1), DqAll.mono g.mono _ _ h4⟩
  | bor xs =>
    obtain ⟨p, vs, e, h1, h2, h3, h4⟩ := h
    exact ⟨p, vs, e, h1, new p vs h2 h3, g.keep p _ h3 (hbn p h1), DqAll.mono g.mono _ _ h4⟩
  | src => exact h
theorem SvOk.mono {v : Option V} {r : SV} (h : SvOk K L B Hi H v r) (g : Grow L Hi H Hi' H') (hbn : ∀ p, B p = none → ¬ L.foot p) : SvOk K L B Hi' H' v r := by
  have new : ∀ p vs, Hi p = none → H p = some (.lst vs) → Hi' p = none := fun p vs h1 h2 => by
    cases q : Hi' p with
    | none => rfl
    | some o =>
      have := g.fr p (by rw [q]; simp) h1
      rw [h2] at this
      cases this
  cases r with
  | un => trivial
  | d x =>
    obtain ⟨u, e, h⟩ := h
    exact ⟨u, e, Dq.mono g.mono _ _ h⟩
  | own xs =>
    obtain ⟨p, vs, e, h1, h2, h3, h4⟩ := h
    exact ⟨p, vs, e, h1, new p vs h2 h3, g.keep p _ h3 (hbn p h1), DqAll.mono g.mono _ _ h4⟩
  | src => exact h
/-- behind a step -/
theorem Rel.step (r : Rel K L Hi0 B Hi σ H ρ) (g : Grow L Hi H Hi' H') (hs : L.ok H') : Rel K L Hi0 B Hi' σ H' ρ where
  g := r.g.trans g
  src := hs
  srcB := r.srcB
  av0 := r.av0
  len := r.len
  slot := fun i q e => by
    obtain ⟨v, e1, h⟩ := r.slot i q e
    exact ⟨v, e1, h.mono g (Loc.nofoot r.srcB)⟩
  apart := r.apart
/-- a worth, read where it stands -/
theorem AvOk.dq {v : V} {a : AV} {x : PyData} (h : AvOk K L B Hs Hi H v a) (s : Same Hi H) (e : a.dat? = some x) : Dq K H v x := by
  cases a with
  | d y => cases e; exact Dq.mono s _ _ h
  | new xs =>
    cases e
    obtain ⟨p, vs, rfl, h1, h2, h3, h4⟩ := h
    exact .lst h3 (DqAll.mono s _ _ h4)
  | bor xs =>
    cases e
    obtain ⟨p, vs, rfl, h1, h2, h3, h4⟩ := h
    exact .lst h3 (DqAll.mono s _ _ h4)
  | src => cases e
/-- a sequence, its items fixed -/
theorem AvOk.list {v : V} {a : AV} {xs : List PyData} (h : AvOk K L B Hs Hi H v a) (s : Same Hi H) (e : a.dat? = some (.list xs)) : ∃ p vs, v = .ref p ∧ H p = some (.lst vs) ∧ DqAll K Hi vs xs := by
  cases a with
  | d y =>
    cases e
    have h : Dq K Hi v (.list xs) := h
    cases h with
    | lst h1 h2 => exact ⟨_, _, rfl, s _ _ h1, h2⟩
  | new xs =>
    cases e
    obtain ⟨p, vs, rfl, h1, h2, h3, h4⟩ := h
    exact ⟨p, vs, rfl, h3, h4⟩
  | bor xs =>
    cases e
    obtain ⟨p, vs, rfl, h1, h2, h3, h4⟩ := h
    exact ⟨p, vs, rfl, h3, h4⟩
  | src => cases e
theorem AvOk.tuple {v : V} {a : AV} {xs : List PyData} (h : AvOk K L B Hs Hi H v a) (s : Same Hi H) (e : a.dat? = some (.tuple xs)) : ∃ p vs, v = .ref p ∧ SqT K Hi p vs ∧ SqT K H p vs ∧ DqAll K Hi vs xs := by
  cases a with
  | d y =>
    cases e
    have h : Dq K Hi v (.tuple xs) := h
    cases h with
    | tup h1 h2 => exact ⟨_, _, rfl, h1, sqT_mono s h1, h2⟩
  | new xs => cases e
  | bor xs => cases e
  | src => cases e
theorem AvOk.flat {v : V} {a : AV} {x : PyData} (h : AvOk K L B Hs Hi H v a) (e : a.dat? = some x) (hl : ∀ xs, x ≠ .list xs) : a = .d x ∧ Dq K Hi v x := by
  cases a with
  | d y => cases e; exact ⟨rfl, h⟩
  | new xs => cases e; exact absurd rfl (hl _)
  | bor xs => cases e; exact absurd rfl (hl _)
  | src => cases e
/-- a thing of a new address is fixed: what else stands, stands as before -/
theorem Dq.upd {v : V} {x : PyData} {p : Addr} {o : HO} (hp : Hi p = none) (h : Dq K Hi v x) : Dq K (upd Hi p o) v x := Dq.mono (fun b u e => by rw [upd_ne (ne_of_none e hp)]; exact e) _ _ h
theorem DqAll.upd {vs : List V} {xs : List PyData} {p : Addr} {o : HO} (hp : Hi p = none) (h : DqAll K Hi vs xs) : DqAll K (upd Hi p o) vs xs := DqAll.mono (fun b u e => by rw [upd_ne (ne_of_none e hp)]; exact e) _ _ h
def isNew : AV → Bool
  | .new _ => true
  | _ => false
/-- a worth is fixed, to be laid into another thing -/
theorem AvOk.fix {v : V} {a : AV} {x : PyData} (h : AvOk K L B Hs Hi H v a) (g : Grow L His Hs Hi H) (e : a.emb? = some x) : ∃ Hi2, Grow L His Hs Hi2 H ∧ Same Hi Hi2 ∧ Dq K Hi2 v x ∧
    ∀ q, Hi q = none → (isNew a = true → v ≠ .ref q) → Hi2 q = none := by
  cases a with
  | d y =>
    cases e
    exact ⟨Hi, g, Same.refl _, h, fun _ q _ => q⟩
  | new xs =>
    cases e
    obtain ⟨p, vs, rfl, h1, h2, h3, h4⟩ := h
    exact ⟨L2.upd Hi p (.lst vs), g.fixed h3 h1 h2, fun b u e => by rw [upd_ne (ne_of_none e h2)]; exact e, .lst upd_same (DqAll.upd h2 h4), fun q hq hv => by
      rw [upd_ne (fun z => hv rfl (by rw [z]))]
      exact hq⟩
  | bor xs => cases e
  | src => cases e
/-- several worths, the new lists among them apart -/
inductive LsOk (K : PySem.W.Frag) (L : Loc) (B Hs Hi H : Hp) : List V → List AV → Prop
  | nil : LsOk K L B Hs Hi H [] []
  | cons {v : V} {a : AV} {vs : List V} {as : List AV} (h : AvOk K L B Hs Hi H v a) (hn : isNew a = true → ∀ (i : Nat) b, as[i]? = some b → isNew b = true → vs[i]? ≠ some v) (t : LsOk K L B Hs Hi H vs as) : LsOk K L B Hs Hi H (v :: vs) (a :: as)
theorem LsOk.len : ∀ {vs : List V} {as : List AV}, LsOk K L B Hs Hi H vs as → vs.length = as.length
  | _, _, .nil => rfl
  | _, _, .cons _ _ t => by rw [List.length_cons, List.length_cons, LsOk.len t]
theorem LsOk.get : ∀ {vs : List V} {as : List AV} {i : Nat} {v : V} {a : AV}, LsOk K L B Hs Hi H vs as → vs[i]? = some v → as[i]? = some a → AvOk K L B Hs Hi H v a
  | _, _, 0, _, _, .cons h _ _, e1, e2 => by
    simp at e1 e2
    subst e1 e2
    exact h
  | _, _, i + 1, v, a, .cons _ _ t, e1, e2 => LsOk.get (i := i) t (by simpa using e1) (by simpa using e2)
/-- where things were fixed elsewhere -/
theorem AvOk.fixed {v : V} {a : AV} {Hi2 : Hp} (h : AvOk K L B Hs Hi H v a) (s : Same Hi Hi2) (hn : ∀ xs q, a = .new xs → v = .ref q → Hi2 q = none) (hb : ∀ xs q, a = .bor xs → v = .ref q → Hi2 q = none) : AvOk K L B Hs Hi2 H v a := by
  cases a with
  | d x => exact Dq.mono s _ _ h
  | new xs =>
    obtain ⟨p, vs, rfl, h1, h2, h3, h4⟩ := h
    exact ⟨p, vs, rfl, h1, hn xs p rfl rfl, h3, DqAll.mono s _ _ h4⟩
  | bor xs =>
    obtain ⟨p, vs, rfl, h1, h2, h3, h4⟩ := h
    exact ⟨p, vs, rfl, h1, hb xs p rfl rfl, h3, DqAll.mono s _ _ h4⟩
  | src => exact h
theorem AvOk.addr {v : V} {a : AV} {q : Addr} (h : AvOk K L B Hs Hi H v a) (hn : isNew a = true) (e : v = .ref q) : Hi q = none := by
  cases a with
  | new xs =>
    obtain ⟨p, vs, rfl, h1, h2, h3, h4⟩ := h
    cases e
    exact h2
  | d x => cases hn
  | bor xs => cases hn
  | src => cases hn
/-- all are fixed -/
theorem LsOk.fix : ∀ {vs : List V} {as : List AV} {xs : List PyData} {Hi : Hp}, LsOk K L B Hs Hi H vs as → Grow L His Hs Hi H → embs? as = some xs → ∃ Hi2, Grow L His Hs Hi2 H ∧ Same Hi Hi2 ∧ DqAll K Hi2 vs xs ∧
    ∀ q, Hi q = none → (∀ (i : Nat) b, as[i]? = some b → isNew b = true → vs[i]? ≠ some (V.ref q)) → Hi2 q = none
  | _, _, _, Hi, .nil, g, e => by
    cases e
    exact ⟨Hi, g, Same.refl _, .nil, fun _ h _ => h⟩
  | _, _, _, Hi, .cons (v := v) (a := a) (vs := vs) (as := as) h hn t, g, e => by
    have e' : (match a.emb?, embs? as with
      | some x, some xs => some (x :: xs)
      | _, _ => none) = some _ := e
    split at e'
    · rename_i x xs hx hxs
      cases e'
      obtain ⟨Hi2, g2, s2, d2, k2⟩ := LsOk.fix t g hxs
      have h' : AvOk K L B Hs Hi2 H v a := h.fixed s2 (fun ys q ea ev => by
        subst ea ev
        exact k2 q (h.addr rfl rfl) (hn rfl)) (fun ys q ea ev => by
        subst ea
        cases hx)
      obtain ⟨Hi3, g3, s3, d3, k3⟩ := h'.fix g2 hx
      refine ⟨Hi3, g3, s2.trans s3, .cons d3 (DqAll.mono s3 _ _ d2), fun q hq hq2 => ?_⟩
      have hr : ∀ (i : Nat) b, as[i]? = some b → isNew b = true → vs[i]? ≠ some (V.ref q) := fun i b h1 h2 => by
        have := hq2 (i + 1) b (by simpa using h1) h2
        simpa using this
      have hq3 := k2 q hq hr
      exact k3 q hq3 fun hna z => hq2 0 a (by simp) hna (by simp [z])
    · cases e'
end
end Un
end
section
/-! Un: a tuple times any int. -/
open PySem PySem.Spec PyProof.Rows L2
namespace Un
theorem tmul_self (l : Addr) (items : Array Value) (n : Nat) (dd : Option Addr) (sl : Array (Option Value)) (x : Int) (u : Tok) (c0 : (decide (x < -(2 ^ 63)) || decide (x ≥ 2 ^ 63)) = false) (c1 : (items.isEmpty || x == 1) = true) :
    Meets (Builtin.«tuple.__mul__» ⟨[.ref l, .int x u], []⟩) (fun _ R s => s.heap.get? l = some { cls := .type "tuple", dict := dd, data := .seq items n, slots := sl } ∧ R (.ok (.ret (Value.ref l))) s) :=
  .of_wp fun prog w A R s h => by
    obtain ⟨hp, g, d, tk, os⟩ := s
    obtain ⟨hl, h⟩ := h
    have f1 := AutoSeq1.idx_int
    wp_walk using wpAny_loadPart' hl
    repeat (first
      | (refine wpAny_ite_false (decide_eq_false (by rw [c0]; exact Bool.false_ne_true)) ?_; wp_walk using wpAny_loadPart' hl)
      | (refine wpAny_ite_true (decide_eq_true c1) ?_; wp_walk using wpAny_loadPart' hl))
    exact ⟨_, rfl, h⟩
theorem tmul_none (l : Addr) (items : Array Value) (n : Nat) (dd : Option Addr) (sl : Array (Option Value)) (x : Int) (u : Tok) (c0 : (decide (x < -(2 ^ 63)) || decide (x ≥ 2 ^ 63)) = false) (c1 : (items.isEmpty || x == 1) = false) (c2 : (decide (x ≤ 0) || items.isEmpty) = true) :
    Meets (Builtin.«tuple.__mul__» ⟨[.ref l, .int x u], []⟩) (fun _ R s => s.heap.get? l = some { cls := .type "tuple", dict := dd, data := .seq items n, slots := sl } ∧
      R (.ok (.ret (Value.ref s.heap.objs.size))) { s with heap := s.heap.push { cls := Value.type "tuple", data := Data.seq #[] }, toks := s.toks }) :=
  .of_wp fun prog w A R s h => by
    obtain ⟨hp, g, d, tk, os⟩ := s
    obtain ⟨hl, h⟩ := h
    have f1 := AutoSeq1.idx_int
    wp_walk using wpAny_loadPart' hl
    repeat (first
      | (refine wpAny_ite_false (decide_eq_false (by rw [c0]; exact Bool.false_ne_true)) ?_; wp_walk using wpAny_loadPart' hl)
      | (refine wpAny_ite_false (decide_eq_false (by rw [c1]; exact Bool.false_ne_true)) ?_; wp_walk using wpAny_loadPart' hl)
      | (refine wpAny_ite_true (decide_eq_true c2) ?_; wp_walk using wpAny_loadPart' hl))
    exact ⟨_, rfl, h⟩
/-- a tuple times an int: itself, or a new one -/
def rRepA (K : PySem.W.Frag) : R2 := fun x y H Q => ∃ l k xs, x = .ref l ∧ y = .int k ∧ SqT K H l xs ∧ (-(2 ^ 63) ≤ k ∧ k < 2 ^ 63 ∧ xs.length * k.toNat ≤ sizeLine) ∧
  (xs = [] ∨ k = 1 → Q (.ref l) H) ∧ (¬ (xs = [] ∨ k = 1) → ∀ p, H p = none → Q (.ref p) (upd H p (.tup (List.replicate k.toNat xs).flatten)))
theorem op_repA {X : Cx} : OpR X (binaryOp .Mult) (rRepA X.K) := by
  intro pins s σ H x y v u Q I rx ry h
  obtain ⟨l, k, xs, rfl, rfl, hT, ⟨h1, h2, hz⟩, q0, q1⟩ := h
  cases rx
  obtain ⟨t, rfl⟩ := ry
  obtain ⟨its, r, ⟨⟨cls, dd, data, sl⟩, ho, hc, n, hd⟩, hs⟩ := I.tuple hT
  simp only at hc hd
  subst hc hd
  have hle : its.length = xs.length := r.length.symm
  have c0 : (decide (k < -(2 ^ 63)) || decide (k ≥ 2 ^ 63)) = false := by
    rw [decide_eq_false (by omega), decide_eq_false (by omega)] <;> rfl
  have road : ∀ {Q' : Value → Shared → Prop}, wpAny (model X.prog X.w) X.A (call (.builtin "tuple.__mul__") [.ref l, .int k t]) Q' X.xe s → wpAny (model X.prog X.w) X.A (binaryOp .Mult (.ref l) (.int k t)) Q' X.xe s := fun {Q'} hq =>
    wpAny_binaryOp_repeat_ref (T := "tuple") (U := "int") (by decide) ⟨_, ho, rfl⟩ (fun s' => typeIs_int s' k t) noFill_tuple_mul F.fills_int_mul F.slot_int_rmul repeat_tuple F.slot_int_index.lookup
      (call_meets F.slot_int_rmul (typeIs_int s k t) F.entry_int_rmul (F.args_int_rmul_2 _ _) (int_rmul_tuple k t l its.toArray n dd sl) ⟨ho, rfl, ⟨_, ho, rfl⟩, hq⟩)
  have hemp : its.toArray.isEmpty = decide (xs = []) := by
    cases its with
    | nil =>
      have : xs = [] := List.eq_nil_of_length_eq_zero (by simpa using hle.symm)
      simp [this]
    | cons a b =>
      have : xs ≠ [] := fun e => by
        rw [e] at hle
        cases hle
      simp [this]
  by_cases hw : xs = [] ∨ k = 1
  · have c1 : (its.toArray.isEmpty || k == 1) = true := by
      rw [hemp]
      rcases hw with hw | hw
      · simp [hw]
      · simp [hw]
    exact road (call_meets F.slot_tuple_mul ⟨_, ho, rfl⟩ F.entry_tuple_mul (F.args_tuple_mul_2 _ _) (tmul_self l its.toArray n dd sl k t c0 c1) ⟨ho, ⟨.ref l, H, I, rfl, q0 hw⟩⟩)
  · have hn : xs ≠ [] := fun e => hw (.inl e)
    have hk1 : k ≠ 1 := fun e => hw (.inr e)
    have c1 : (its.toArray.isEmpty || k == 1) = false := by
      rw [hemp]
      simp [hn, hk1]
    have fin : ∀ (hp : Heap) (vs : Array Value), vs = (List.replicate k.toNat its).flatten.toArray → hp = s.heap.push { cls := Value.type "tuple", data := Data.seq vs } → EP X pins σ Q (Value.ref s.heap.objs.size) { s with heap := hp, toks := s.toks } := by
      rintro hp vs rfl rfl
      refine ⟨.ref s.heap.objs.size, _, I.laid (t' := s.toks) (o := .tup (List.replicate k.toNat xs).flatten) (fun b ob q => Heap.get?_push_of_some _ q) (Nat.le_refl _) ?_, rfl, q1 hw _ (I.hok.fresh (Nat.le_refl _))⟩
      refine ⟨?_, _, r.rep k.toNat, IsTup.new _ _⟩
      rw [PyProof.Rows.lm_len_rep_flat, Nat.mul_comm]
      exact hz
    by_cases hk0 : k ≤ 0
    · have c2 : (decide (k ≤ 0) || its.toArray.isEmpty) = true := by simp [hk0]
      refine road (call_meets F.slot_tuple_mul ⟨_, ho, rfl⟩ F.entry_tuple_mul (F.args_tuple_mul_2 _ _) (tmul_none l its.toArray n dd sl k t c0 c1 c2) ⟨ho, fin _ #[] ?_ rfl⟩)
      have : k.toNat = 0 := by omega
      rw [this]
      rfl
    · have c2 : (decide (k ≤ 0) || its.toArray.isEmpty) = false := by
        rw [hemp]
        simp [hn, hk0]
      have hsz0 : its.toArray.size = xs.length := by rw [List.size_toArray, hle]
      have hm : ((its.toArray.size : Nat) : Int) * k ≤ 16777216 := by
        rw [hsz0]
        have e1 : k = (k.toNat : Int) := by omega
        rw [e1, ← Int.natCast_mul]
        have hz' := hz
        rw [sizeLine_eq] at hz'
        omega
      have c4 : Builtin.Tuple.tupleTooMany (((its.toArray.size : Nat) : Int) * k) = false := by
        unfold Builtin.Tuple.tupleTooMany
        rw [sizeLine_eq]
        exact decide_eq_false (by omega)
      refine road (call_meets F.slot_tuple_mul ⟨_, ho, rfl⟩ F.entry_tuple_mul (F.args_tuple_mul_2 _ _) (tuple_mulW l its.toArray n dd sl k t c0 c1 c2 (by omega) c4 (by
        rw [size_rep, List.size_toArray, PyProof.Rows.lm_len_rep_flat, Nat.mul_comm, hle]
        exact hz)) ⟨ho, fin _ _ (size_rep its k.toNat) rfl⟩)
end Un
end
section
/-! Un: the operators by plain data. -/
namespace Un
open PySem PySem.Spec L2

/-- what is wanted behind: the wish k of the worth, Q of the value and the heap -/
def After (K : PySem.W.Frag) (L : Loc) (B Hs Hi H : Hp) (k : KA) (Q : VK) : Prop :=
  ∀ av, k av → ∀ v Hi' H', Grow L Hi H Hi' H' → L.ok H' → AvOk K L B Hs Hi' H' v av → Q v H'
section
variable {K : PySem.W.Frag} {L : Loc} {B Hs Hi H Hi' H' : Hp} {k : KA} {Q : VK}
theorem Loc.okUpd {p : Addr} {o : HO} (h : L.ok H) (hp : ¬ L.foot p) : L.ok (upd H p o) := L.mono H _ h fun a ha => upd_ne fun e => hp (e ▸ ha)
theorem Loc.okNew {p : Addr} {o : HO} (h : L.ok H) (hp : H p = none) : L.ok (upd H p o) := L.okUpd h (Loc.nofoot h p hp)
theorem Loc.okSame (h : L.ok H) (s : Same H H') : L.ok H' := L.mono H _ h fun a ha => by
  cases q : H a with
  | none => exact absurd q (L.dom H a h ha)
  | some o => exact s a o q
theorem After.flat {x : PyData} {v : V} (h : After K L B Hs Hi H k Q) (hk : k (.d x)) (s : Same Hi H) (ok : L.ok H) (d : Dq K Hi v x) : Q v H := h _ hk v Hi H (Grow.refl s) ok d
theorem After.newL {xs : List PyData} {vs : List V} (h : After K L B Hs Hi H k Q) (hk : k (.new xs)) (s : Same Hi H) (ok : L.ok H) (hs : ∀ a, H a = none → Hs a = none) (d : DqAll K Hi vs xs) : ∀ p, H p = none → Q (.ref p) (upd H p (.lst vs)) := fun p hp =>
  h _ hk _ Hi _ (Grow.laid' s hp) (L.okNew ok hp) ⟨p, vs, rfl, hs p hp, s.free hp, upd_same, d⟩
theorem After.newT {xs : List PyData} {vs : List V} (h : After K L B Hs Hi H k Q) (hk : k (.d (.tuple xs))) (s : Same Hi H) (ok : L.ok H) (d : DqAll K Hi vs xs) : ∀ p, H p = none → Q (.ref p) (upd H p (.tup vs)) := fun p hp =>
  h _ hk _ (upd Hi p (.tup vs)) _ (Grow.laid s hp) (L.okNew ok hp) (.tup (SqT.of upd_same) (DqAll.upd (s.free hp) d))
/-- a later start -/
theorem AvOk.early {v : V} {a : AV} {H0 : Hp} (h : AvOk K L B H0 Hi H v a) (e : ∀ p, H0 p = none → Hs p = none) : AvOk K L B Hs Hi H v a := by
  cases a with
  | d x => exact h
  | new xs =>
    obtain ⟨p, vs, rfl, h1, h2, h3, h4⟩ := h
    exact ⟨p, vs, rfl, e p h1, h2, h3, h4⟩
  | bor xs => exact h
  | src => exact h
theorem AvOk.int {v : V} {a : AV} {i : Int} (h : AvOk K L B Hs Hi H v a) (e : a.dat? = some (.int i)) : v = .int i := by
  obtain ⟨rfl, d⟩ := h.flat e (fun _ z => nomatch z)
  cases d
  rfl
theorem AvOk.bool {v : V} {a : AV} {b : Bool} (h : AvOk K L B Hs Hi H v a) (e : a.dat? = some (.bool b)) : v = .bl b := by
  obtain ⟨rfl, d⟩ := h.flat e (fun _ z => nomatch z)
  cases d
  rfl
theorem AvOk.str {v : V} {a : AV} {z : Str} (h : AvOk K L B Hs Hi H v a) (e : a.dat? = some (.str z)) : v = .str z := by
  obtain ⟨rfl, d⟩ := h.flat e (fun _ z => nomatch z)
  cases d
  rfl
end

/-- two worths and an operator's word -/
def rW (K : PySem.W.Frag) (o : O2) : R2 := fun x y H Q => ∃ L B Hs Hi p q k, Same Hi H ∧ L.ok H ∧ (∀ a, H a = none → Hs a = none) ∧ AvOk K L B Hs Hi H x p ∧ AvOk K L B Hs Hi H y q ∧ w2 o p q k ∧ After K L B Hs Hi H k Q
def isCmp : O2 → Option CmpOp
  | .eq => some .Eq
  | .ne => some .NotEq
  | .lt => some .Lt
  | .le => some .LtE
  | .gt => some .Gt
  | .ge => some .GtE
  | _ => none
def isBin : O2 → Option Operator
  | .add => some .Add
  | .sub => some .Sub
  | .mul => some .Mult
  | .fdiv => some .FloorDiv
  | .mod => some .Mod
  | .pow => some .Pow
  | _ => none
section
variable {X : Cx}
theorem op_bin {o : O2} {op : Operator} (ho : isBin o = some op) : OpR X (binaryOp op) (rW X.K o) := by
  intro pins s σ H x y v u Q I rx ry ⟨L, B, Hs, Hi, p, q, k, sm, ok, hs, hp, hq, ⟨a, b, ea, eb, hw⟩, after⟩
  have fl : ∀ z, k (.d (.int z)) → Q (.int z) H := fun z hk => after.flat hk sm ok (.int z)
  cases o with
  | add =>
    cases ho
    unfold b2 at hw
    cases a with
    | int i =>
      cases b with
      | int j => exact op_add pins s σ H x y v u Q I rx ry ⟨i, j, hp.int ea, hq.int eb, fl _ hw⟩
      | _ => exact hw.elim
    | str a =>
      cases b with
      | str b => exact op_add_str pins s σ H x y v u Q I rx ry ⟨a, b, hp.str ea, hq.str eb, hw.1, after.flat hw.2 sm ok (.str _)⟩
      | _ => exact hw.elim
    | list xs =>
      cases b with
      | list ys =>
        obtain ⟨a1, vs, rfl, h1, d1⟩ := hp.list sm ea
        obtain ⟨a2, ws, rfl, h2, d2⟩ := hq.list sm eb
        exact op_cat pins s σ H _ _ v u Q I rx ry ⟨a1, a2, vs, ws, rfl, rfl, h1, h2, by rw [d1.len, d2.len]; exact hw.1, after.newL hw.2 sm ok hs (d1.append d2)⟩
      | _ => exact hw.elim
    | tuple xs =>
      cases b with
      | tuple ys =>
        obtain ⟨a1, vs, rfl, g1, h1, d1⟩ := hp.tuple sm ea
        obtain ⟨a2, ws, rfl, g2, h2, d2⟩ := hq.tuple sm eb
        refine op_catA pins s σ H _ _ v u Q I rx ry ⟨a1, a2, vs, ws, rfl, rfl, h1, h2, by rw [d1.len, d2.len]; exact hw.1, fun e => ?_, fun _ e => ?_, fun _ _ => after.newT hw.2 sm ok (d1.append d2)⟩
        · subst e
          cases d1
          exact after.flat hw.2 sm ok (.tup g2 (by simpa using d2))
        · subst e
          cases d2
          exact after.flat hw.2 sm ok (.tup g1 (by simpa using d1))
      | _ => exact hw.elim
    | _ => exact hw.elim
  | sub =>
    cases ho
    unfold b2 at hw
    cases a with
    | int i =>
      cases b with
      | int j => exact op_sub pins s σ H x y v u Q I rx ry ⟨i, j, hp.int ea, hq.int eb, fl _ hw⟩
      | _ => exact hw.elim
    | _ => exact hw.elim
  | mul =>
    cases ho
    unfold b2 at hw
    cases a with
    | int i =>
      cases b with
      | int j =>
        obtain ⟨h1, h2⟩ := hw
        rcases h1 with h1 | h1 | h1
        · exact op_mul pins s σ H x y v u Q I rx ry ⟨i, j, hp.int ea, hq.int eb, .inl h1, fl _ h2⟩
        · exact op_mul pins s σ H x y v u Q I rx ry ⟨i, j, hp.int ea, hq.int eb, .inr h1, fl _ h2⟩
        · exact op_mulW pins s σ H x y v u Q I rx ry ⟨i, j, hp.int ea, hq.int eb, h1, fl _ h2⟩
      | _ => exact hw.elim
    | list xs =>
      cases b with
      | int n =>
        obtain ⟨a1, vs, rfl, h1, d1⟩ := hp.list sm ea
        obtain rfl := hq.int eb
        exact op_rep pins s σ H _ _ v u Q I rx ry ⟨a1, n, vs, rfl, rfl, h1, hw.1.1, hw.1.2.1, by rw [d1.len]; exact hw.1.2.2, after.newL hw.2 sm ok hs (d1.rep _)⟩
      | _ => exact hw.elim
    | tuple xs =>
      cases b with
      | int n =>
        obtain ⟨a1, vs, rfl, g1, h1, d1⟩ := hp.tuple sm ea
        obtain rfl := hq.int eb
        refine op_repA pins s σ H _ _ v u Q I rx ry ⟨a1, n, vs, rfl, rfl, h1, by rw [d1.len]; exact hw.1, fun e => ?_, fun _ => after.newT hw.2 sm ok (d1.rep _)⟩
        have e2 : (List.replicate n.toNat xs).flatten = xs := by
          rcases e with e | e
          · subst e
            cases d1
            simp
          · subst e
            simp
        have hw2 : k (.d (.tuple (List.replicate n.toNat xs).flatten)) := hw.2
        rw [e2] at hw2
        exact after.flat hw2 sm ok (.tup g1 d1)
      | _ => exact hw.elim
    | _ => exact hw.elim
  | fdiv =>
    cases ho
    unfold b2 at hw
    cases a with
    | int i =>
      cases b with
      | int j =>
        have r : OpR X (binaryOp .FloorDiv) (rI (fun _ j => DivOk j) fun i j => .int (i.fdiv j)) := opI fun _ _ _ _ _ _ _ hc q => PyProof.Rows.floordiv_int hc.1 q (.inl (PyProof.noPylong_of_log2 hc.2))
        exact r pins s σ H x y v u Q I rx ry ⟨i, j, hp.int ea, hq.int eb, hw.1, fl _ hw.2⟩
      | _ => exact hw.elim
    | _ => exact hw.elim
  | mod =>
    cases ho
    unfold b2 at hw
    cases a with
    | int i =>
      cases b with
      | int j => exact op_modN pins s σ H x y v u Q I rx ry ⟨i, j, hp.int ea, hq.int eb, hw.1, fl _ hw.2⟩
      | _ => exact hw.elim
    | _ => exact hw.elim
  | pow =>
    cases ho
    unfold b2 at hw
    cases a with
    | int i =>
      cases b with
      | int j => exact op_pow pins s σ H x y v u Q I rx ry ⟨i, j, hp.int ea, hq.int eb, hw.1, fl _ hw.2⟩
      | _ => exact hw.elim
    | _ => exact hw.elim
  | _ => cases ho
theorem eq_str {a b : PyData} {k : KA} (h : b2 .eq a b k) : (∃ i j, a = .str i ∧ b = .str j ∧ k (.d (.bool (decide (i = j))))) ∨ (shp a ∧ shp b ∧ k (.d (.bool (PyData.eqv a b)))) := by
  unfold b2 at h
  cases a <;> cases b <;> first | exact .inl ⟨_, _, rfl, rfl, h⟩ | exact .inr h
theorem ne_str {a b : PyData} {k : KA} (h : b2 .ne a b k) : (∃ i j, a = .str i ∧ b = .str j ∧ k (.d (.bool (!decide (i = j))))) ∨ (shp a ∧ shp b ∧ k (.d (.bool (!PyData.eqv a b)))) := by
  unfold b2 at h
  cases a <;> cases b <;> first | exact .inl ⟨_, _, rfl, rfl, h⟩ | exact .inr h
theorem dec_str (i j : Str) : decide (V.str i = V.str j) = decide (i = j) := by
  by_cases h : i = j
  · subst h
    simp
  · simp [h]
theorem op_cmp {o : O2} {op : CmpOp} (hu : X.A.units + 64 < cLine) (ho : isCmp o = some op) : OpR X (compareOp op) (rW X.K o) := by
  intro pins s σ H x y v u Q I rx ry ⟨L, B, Hs, Hi, p, q, k, sm, ok, hs, hp, hq, ⟨a, b, ea, eb, hw⟩, after⟩
  have fl : ∀ z, k (.d (.bool z)) → Q (.bl z) H := fun z hk => after.flat hk sm ok (.bl z)
  cases o with
  | eq =>
    cases ho
    rcases eq_str hw with ⟨i, j, rfl, rfl, hk⟩ | hw
    · obtain rfl := hp.str ea
      obtain rfl := hq.str eb
      exact op_eq pins s σ H _ _ v u Q I rx ry ⟨rfl, by rw [dec_str]; exact fl _ hk⟩
    · exact op_eqD hu pins s σ H x y v u Q I rx ry ⟨a, b, Dq.dp _ _ (hp.dq sm ea), Dq.dp _ _ (hq.dq sm eb), hw.1, hw.2.1, fl _ hw.2.2⟩
  | ne =>
    cases ho
    rcases ne_str hw with ⟨i, j, rfl, rfl, hk⟩ | hw
    · obtain rfl := hp.str ea
      obtain rfl := hq.str eb
      exact op_ne pins s σ H _ _ v u Q I rx ry ⟨rfl, by rw [dec_str]; exact fl _ hk⟩
    · exact op_neD hu pins s σ H x y v u Q I rx ry ⟨a, b, Dq.dp _ _ (hp.dq sm ea), Dq.dp _ _ (hq.dq sm eb), hw.1, hw.2.1, fl _ hw.2.2⟩
  | lt =>
    cases ho
    unfold b2 at hw
    cases a with
    | int i =>
      cases b with
      | int j => exact op_lt pins s σ H x y v u Q I rx ry ⟨i, j, hp.int ea, hq.int eb, fl _ hw⟩
      | _ => exact hw.elim
    | _ => exact hw.elim
  | le =>
    cases ho
    unfold b2 at hw
    cases a with
    | int i =>
      cases b with
      | int j => exact op_le pins s σ H x y v u Q I rx ry ⟨i, j, hp.int ea, hq.int eb, fl _ hw⟩
      | _ => exact hw.elim
    | _ => exact hw.elim
  | gt =>
    cases ho
    unfold b2 at hw
    cases a with
    | int i =>
      cases b with
      | int j => exact op_gt pins s σ H x y v u Q I rx ry ⟨i, j, hp.int ea, hq.int eb, fl _ hw⟩
      | _ => exact hw.elim
    | _ => exact hw.elim
  | ge =>
    cases ho
    unfold b2 at hw
    cases a with
    | int i =>
      cases b with
      | int j => exact op_ge pins s σ H x y v u Q I rx ry ⟨i, j, hp.int ea, hq.int eb, fl _ hw⟩
      | _ => exact hw.elim
    | _ => exact hw.elim
  | _ => cases ho
theorem ix_w : IxR X (rW X.K .idx) := by
  intro value slice pins s σ H x y v u Q I rx ry ⟨L, B, Hs, Hi, p, q, k, sm, ok, hs, hp, hq, ⟨a, b, ea, eb, hw⟩, after⟩ hsub
  unfold b2 at hw
  cases a with
  | list xs =>
    cases b with
    | int i =>
      obtain ⟨d, e, hk⟩ := hw
      obtain ⟨a1, vs, rfl, h1, d1⟩ := hp.list sm ea
      obtain rfl := hq.int eb
      obtain ⟨w, ew, dw⟩ := d1.at_ e
      exact ix_list value slice pins s σ H _ _ v u Q I rx ry ⟨a1, vs, i, w, rfl, rfl, SqL.of h1, ew, after.flat hk sm ok dw⟩ hsub
    | _ => exact hw.elim
  | tuple xs =>
    cases b with
    | int i =>
      obtain ⟨d, e, hk⟩ := hw
      obtain ⟨a1, vs, rfl, g1, h1, d1⟩ := hp.tuple sm ea
      obtain rfl := hq.int eb
      obtain ⟨w, ew, dw⟩ := d1.at_ e
      exact ix_tup value slice pins s σ H _ _ v u Q I rx ry ⟨a1, vs, i, w, rfl, rfl, h1, ew, after.flat hk sm ok dw⟩ hsub
    | _ => exact hw.elim
  | _ => exact hw.elim
/-- one worth and a word -/
def rW1 (K : PySem.W.Frag) (w : AV → KA → Prop) : V → Hp → VK → Prop := fun x H Q => ∃ L B Hs Hi p k, Same Hi H ∧ L.ok H ∧ (∀ a, H a = none → Hs a = none) ∧ AvOk K L B Hs Hi H x p ∧ w p k ∧ After K L B Hs Hi H k Q
theorem un_w : UnR X (unaryOp .USub) (rW1 X.K (w1 .neg)) := by
  intro pins s σ H x v Q I rx ⟨L, B, Hs, Hi, p, k, sm, ok, hs, hp, ⟨a, ea, hw⟩, after⟩
  unfold b1 at hw
  cases a with
  | int i => exact un_neg pins s σ H x v Q I rx ⟨i, hp.int ea, after.flat hw sm ok (.int _)⟩
  | _ => exact hw.elim
theorem sl_w (lo hi : Option Int) : ∀ (pins : List (Addr × Obj)) (s : Shared) (σ : L2.St) (H : Hp) (x : V) (v vl vu : Value) (sl : Addr) (Q : VK), Inv X pins σ H s → RelV x v → s.heap.IsSliceOf sl vl vu .none → IsPart vl lo → IsPart vu hi → rW1 X.K (fun a k => slcW a lo hi k) x H Q →
    ∃ T id, typeLookup (.type T) "__getitem__" = pure (some (.builtin id)) ∧ s.TypeIs v T ∧ wpAny (model X.prog X.w) X.A (getItem v (.ref sl)) (EP X pins σ Q) X.xe s := by
  intro pins s σ H x v vl vu sl Q I rx hsl pl pu ⟨L, B, Hs, Hi, p, k, sm, ok, hs, hp, ⟨a, ea, hw⟩, after⟩
  cases a with
  | list xs =>
    obtain ⟨a1, vs, rfl, h1, d1⟩ := hp.list sm ea
    exact sl_list pins s σ H _ v vl vu lo hi sl Q I rx hsl pl pu ⟨a1, vs, rfl, SqL.of h1, after.newL hw sm ok hs (d1.cut lo hi)⟩
  | tuple xs =>
    obtain ⟨a1, vs, rfl, g1, h1, d1⟩ := hp.tuple sm ea
    refine sl_tupA pins s σ H _ v vl vu lo hi sl Q I rx hsl pl pu ⟨a1, vs, rfl, h1, fun e => ?_, fun _ => after.newT hw sm ok (d1.cut lo hi)⟩
    have e2 : cut xs lo hi = xs := by
      unfold cut
      rw [← d1.len, e.1, e.2]
      simp [d1.len]
    have hw' : k (.d (.tuple (cut xs lo hi))) := hw
    rw [e2] at hw'
    exact after.flat hw' sm ok (.tup g1 d1)
  | _ => exact hw.elim
end
end Un
end
section
/-! Un: the built-ins by plain data. -/
namespace Un
open PySem PySem.Spec L2
section
variable {X : Cx}
/-- a call of one worth -/
def rC1 (K : PySem.W.Frag) (w : AV → KA → Prop) : List V → Hp → VK → Prop := fun xs H Q => ∃ x, xs = [x] ∧ rW1 K w x H Q
def rC3 (K : PySem.W.Frag) (w : AV → AV → AV → KA → Prop) : List V → Hp → VK → Prop := fun xs H Q => ∃ x y z L B Hs Hi p q r k, xs = [x, y, z] ∧ Same Hi H ∧ L.ok H ∧ (∀ a, H a = none → Hs a = none) ∧ AvOk K L B Hs Hi H x p ∧ AvOk K L B Hs Hi H y q ∧ AvOk K L B Hs Hi H z r ∧ w p q r k ∧ After K L B Hs Hi H k Q
def rC2 (K : PySem.W.Frag) (w : AV → AV → KA → Prop) : List V → Hp → VK → Prop := fun xs H Q => ∃ x y L B Hs Hi p q k, xs = [x, y] ∧ Same Hi H ∧ L.ok H ∧ (∀ a, H a = none → Hs a = none) ∧ AvOk K L B Hs Hi H x p ∧ AvOk K L B Hs Hi H y q ∧ w p q k ∧ After K L B Hs Hi H k Q
theorem call_lenW : CallR X (.builtin "len") (rC1 X.K (w1 .len)) := by
  intro pins s σ H xs us Q I r h
  obtain ⟨x, rfl, L, B, Hs, Hi, p, k, sm, ok, hs, hp, ⟨a, ea, hw⟩, after⟩ := h
  unfold b1 at hw
  cases a with
  | list ys =>
    obtain ⟨a1, vs, rfl, h1, d1⟩ := hp.list sm ea
    exact call_len_seq pins s σ H _ us Q I r ⟨a1, vs, rfl, .inl (SqL.of h1), after.flat (by rw [d1.len]; exact hw) sm ok (.int _)⟩
  | tuple ys =>
    obtain ⟨a1, vs, rfl, g1, h1, d1⟩ := hp.tuple sm ea
    exact call_len_seq pins s σ H _ us Q I r ⟨a1, vs, rfl, .inr h1, after.flat (by rw [d1.len]; exact hw) sm ok (.int _)⟩
  | str z =>
    obtain rfl := hp.str ea
    exact call_len_str pins s σ H _ us Q I r ⟨z, rfl, hw.1, after.flat hw.2 sm ok (.int _)⟩
  | _ => exact hw.elim
theorem call_intW : CallR X (.type "int") (rC1 X.K (w1 .int)) := by
  intro pins s σ H xs us Q I r h
  obtain ⟨x, rfl, L, B, Hs, Hi, p, k, sm, ok, hs, hp, ⟨a, ea, hw⟩, after⟩ := h
  unfold b1 at hw
  cases a with
  | int i =>
    obtain rfl := hp.int ea
    exact call_int1 pins s σ H _ us Q I r (.inl ⟨i, rfl, after.flat hw sm ok (.int _)⟩)
  | bool b =>
    obtain rfl := hp.bool ea
    exact call_int1 pins s σ H _ us Q I r (.inr ⟨b, rfl, after.flat hw sm ok (.int _)⟩)
  | _ => exact hw.elim
theorem call_absW : CallR X (.builtin "abs") (rC1 X.K (w1 .abs)) := by
  intro pins s σ H xs us Q I r h
  obtain ⟨x, rfl, L, B, Hs, Hi, p, k, sm, ok, hs, hp, ⟨a, ea, hw⟩, after⟩ := h
  unfold b1 at hw
  cases a with
  | int i =>
    obtain rfl := hp.int ea
    exact call_abs pins s σ H _ us Q I r ⟨i, rfl, after.flat hw sm ok (.int _)⟩
  | _ => exact hw.elim
theorem call_listW : CallR X (.type "list") (rC1 X.K (w1 .list)) := by
  intro pins s σ H xs us Q I r h
  obtain ⟨x, rfl, L, B, Hs, Hi, p, k, sm, ok, hs, hp, ⟨a, ea, hw⟩, after⟩ := h
  unfold b1 at hw
  cases a with
  | list ys =>
    obtain ⟨a1, vs, rfl, h1, d1⟩ := hp.list sm ea
    exact call_list_of pins s σ H _ us Q I r ⟨a1, vs, rfl, .inl (SqL.of h1), after.newL hw sm ok hs d1⟩
  | tuple ys =>
    obtain ⟨a1, vs, rfl, g1, h1, d1⟩ := hp.tuple sm ea
    exact call_list_of pins s σ H _ us Q I r ⟨a1, vs, rfl, .inr h1, after.newL hw sm ok hs d1⟩
  | _ => exact hw.elim
theorem call_tupleW : CallR X (.type "tuple") (rC1 X.K (w1 .tuple)) := by
  intro pins s σ H xs us Q I r h
  obtain ⟨x, rfl, L, B, Hs, Hi, p, k, sm, ok, hs, hp, ⟨a, ea, hw⟩, after⟩ := h
  unfold b1 at hw
  cases a with
  | list ys =>
    obtain ⟨a1, vs, rfl, h1, d1⟩ := hp.list sm ea
    exact call_tuple_of pins s σ H _ us Q I r ⟨a1, vs, rfl, .inl ⟨SqL.of h1, after.newT hw sm ok d1⟩⟩
  | tuple ys =>
    obtain ⟨a1, vs, rfl, g1, h1, d1⟩ := hp.tuple sm ea
    exact call_tuple_of pins s σ H _ us Q I r ⟨a1, vs, rfl, .inr ⟨h1, after.flat hw sm ok (.tup g1 d1)⟩⟩
  | _ => exact hw.elim
theorem bools_of {K : PySem.W.Frag} {H : Hp} : ∀ {vs : List V} {xs : List PyData} {bs : List Bool}, DqAll K H vs xs → boolsOf xs = some bs → vs = bs.map V.bl
  | _, _, _, .nil, e => by
    cases e
    rfl
  | _, _, bs, .cons (d := d) h t, e => by
    cases d with
    | bool b =>
      unfold boolsOf at e
      cases q : boolsOf _ with
      | none =>
        rw [q] at e
        cases e
      | some cs =>
        rw [q] at e
        cases e
        cases h
        rw [bools_of t q]
        rfl
    | _ => cases e
theorem call_allW (hc : X.calm = true) : CallR X (.builtin "all") (rC1 X.K (w1 .all)) := by
  intro pins s σ H xs us Q I r h
  obtain ⟨x, rfl, L, B, Hs, Hi, p, k, sm, ok, hs, hp, ⟨a, ea, hw⟩, after⟩ := h
  unfold b1 at hw
  cases a with
  | list ys =>
    obtain ⟨bs, e, hk⟩ := hw
    obtain ⟨a1, vs, rfl, h1, d1⟩ := hp.list sm ea
    obtain rfl := bools_of d1 e
    exact cr_all hc pins s σ H _ us Q I r ⟨a1, bs, rfl, SqL.of h1, after.flat hk sm ok (.bl _)⟩
  | _ => exact hw.elim
theorem call_anyW (hc : X.calm = true) : CallR X (.builtin "any") (rC1 X.K (w1 .any)) := by
  intro pins s σ H xs us Q I r h
  obtain ⟨x, rfl, L, B, Hs, Hi, p, k, sm, ok, hs, hp, ⟨a, ea, hw⟩, after⟩ := h
  unfold b1 at hw
  cases a with
  | list ys =>
    obtain ⟨bs, e, hk⟩ := hw
    obtain ⟨a1, vs, rfl, h1, d1⟩ := hp.list sm ea
    obtain rfl := bools_of d1 e
    exact cr_any hc pins s σ H _ us Q I r ⟨a1, bs, rfl, SqL.of h1, after.flat hk sm ok (.bl _)⟩
  | _ => exact hw.elim
theorem call_maxW (hc : X.calm = true) : CallR X (.builtin "max") (rC2 X.K (w3 .max)) := by
  intro pins s σ H xs us Q I r h
  obtain ⟨x, y, L, B, Hs, Hi, p, q, k, rfl, sm, ok, hs, hp, hq, ⟨i, j, e1, e2, hw⟩, after⟩ := h
  subst e1 e2
  obtain rfl := hp.int rfl
  obtain rfl := hq.int rfl
  exact call_max2 hc pins s σ H _ us Q I r ⟨i, j, rfl, after.flat hw sm ok (.int _)⟩
theorem call_max3W (hc : X.calm = true) : CallR X (.builtin "max") (rC3 X.K max3W) := by
  intro pins s σ H xs us Q I r h
  obtain ⟨x, y, z, L, B, Hs, Hi, p, q, t, k, rfl, sm, ok, hs, hp, hq, ht, ⟨i, j, m, e1, e2, e3, hw⟩, after⟩ := h
  subst e1 e2 e3
  obtain rfl := hp.int rfl
  obtain rfl := hq.int rfl
  obtain rfl := ht.int rfl
  refine call_max3Nu hc pins s σ H _ us Q I r ⟨.int i, .int j, .int m, .int (b3 .max (b3 .max i j) m), rfl, ?_, after.flat hw sm ok (.int _)⟩
  have two : ∀ i j : Int, nuMax2 (.int i) (.int j) = some (.int (b3 .max i j)) := fun i j => by
    show some (if decide (i < j) = true then V.int j else V.int i) = some (V.int (if j > i then j else i))
    by_cases h : i < j
    · rw [if_pos (by simpa using h), if_pos h]
    · rw [if_neg (by simpa using h), if_neg h]
  show (nuMax2 (.int i) (.int j)).bind (fun m' => nuMax2 m' (.int m)) = _
  rw [two]
  exact two _ _
theorem call_minW (hc : X.calm = true) : CallR X (.builtin "min") (rC2 X.K (w3 .min)) := by
  intro pins s σ H xs us Q I r h
  obtain ⟨x, y, L, B, Hs, Hi, p, q, k, rfl, sm, ok, hs, hp, hq, ⟨i, j, e1, e2, hw⟩, after⟩ := h
  subst e1 e2
  obtain rfl := hp.int rfl
  obtain rfl := hq.int rfl
  exact call_min2 hc pins s σ H _ us Q I r ⟨i, j, rfl, after.flat hw sm ok (.int _)⟩
theorem call_gcdW : CallR X (.builtin "math.gcd") (rC2 X.K (w3 .gcd)) := by
  intro pins s σ H xs us Q I r h
  obtain ⟨x, y, L, B, Hs, Hi, p, q, k, rfl, sm, ok, hs, hp, hq, ⟨i, j, e1, e2, hw⟩, after⟩ := h
  subst e1 e2
  obtain rfl := hp.int rfl
  obtain rfl := hq.int rfl
  exact cr_gcd pins s σ H _ us Q I r ⟨i, j, rfl, after.flat hw sm ok (.int _)⟩
/-! ### repr -/
theorem call_reprW (hg : X.A.guards = some []) (hu : X.A.units + 128 < cLine) : CallR X (.builtin "repr") (rC1 X.K (w1 .repr)) := by
  intro pins s σ H xs us Q I r h
  obtain ⟨x, rfl, L, B, Hs, Hi, p, k, sm, ok, hs, hp, ⟨a, ea, hw⟩, after⟩ := h
  obtain ⟨⟨h1, h2, h3, h4⟩, hk⟩ := hw
  obtain ⟨u, rfl, rx⟩ := vals1 r
  have fin : ∀ (t : Tok) (s' : Shared), Inv X pins σ H s' → EP X pins σ Q (.str a.shown t) s' := fun t s' I' => ⟨.str a.shown, H, I', ⟨t, rfl⟩, after.flat hk sm ok (.str _)⟩
  obtain ⟨as, rd⟩ := Dp.reads I a x u (Dq.dp _ _ (hp.dq sm ea)) rx
  have seq : ∀ b, u = .ref b → wpAny (model X.prog X.w) X.A (call (.builtin "repr") [u]) (EP X pins σ Q) X.xe s := fun b e => by
    subst e
    exact repr_of_reads' rd h1 (fun z => by rw [h2] at z; cases z) hg (by omega) (fun _ _ e => e) (fun h' t tk hk' => fin t _ (I.kept hk')) h4
  cases a with
  | none =>
    obtain ⟨rfl, d⟩ := hp.flat ea (fun _ z => nomatch z)
    cases d
    obtain rfl : u = Value.none := rx
    exact PySem.P.repr_of_none (by have := fin s.toks { s with toks := s.toks + 1 } (I.tok _); simpa only [PyData.shown] using this)
  | bool b =>
    obtain rfl := hp.bool ea
    obtain rfl : u = Value.bool b := rx
    exact PySem.P.repr_of_bool (by have := fin s.toks { s with toks := s.toks + 1 } (I.tok _); simpa only [PyData.shown] using this)
  | int i =>
    obtain rfl := hp.int ea
    obtain ⟨t, rfl⟩ := rx
    exact PySem.P.repr_of_int (by simpa [PyData.showable] using h1) (by have := fin s.toks { s with toks := s.toks + 1 } (I.tok _); simpa only [PyData.shown] using this)
  | str z =>
    obtain rfl := hp.str ea
    obtain ⟨t, rfl⟩ := rx
    exact PySem.P.repr_of_str (by have := fin s.toks { s with toks := s.toks + 1 } (I.tok _); simpa only [PyData.shown] using this) (by simpa only [PyData.shown] using h4)
  | list ys =>
    obtain ⟨a1, vs, rfl, _, _⟩ := hp.list sm ea
    exact seq a1 rx
  | tuple ys =>
    obtain ⟨a1, vs, rfl, _, _, _⟩ := hp.tuple sm ea
    exact seq a1 rx
  | dict ys => cases h2
/-! ### isinstance -/
def tyOf : PyData → String
  | .none => "NoneType"
  | .bool _ => "bool"
  | .int _ => "int"
  | .str _ => "str"
  | .list _ => "list"
  | .tuple _ => "tuple"
  | .dict _ => "dict"
theorem Dq.ty {K : PySem.W.Frag} {H : Hp} {v : V} {d : PyData} (h : Dq K H v d) : TyX K H v (.type (tyOf d)) := by
  cases h with
  | non => exact .base .non
  | bl b => exact .base (.bl b)
  | int i => exact .base (.int i)
  | str x => exact .base (.str x)
  | lst h1 h2 => exact .base (.lst h1)
  | tup h1 h2 =>
    rcases h1 with (h1 | ⟨o, h1⟩) | ⟨o, its, n, h1, hc, _⟩
    · exact .base (.tup h1)
    · exact .fTuple h1
    · exact .kTuple h1 hc
def rIs (K : PySem.W.Frag) (T : String) (w : AV → KA → Prop) : List V → Hp → VK → Prop := fun xs H Q => ∃ x, xs = [x, .ty T] ∧ rW1 K w x H Q
theorem call_isW {T : String} {o : O1} (ho : ∀ d k, b1 o d k → ∃ b, kitB (tyOf d) T = some b ∧ k (.d (.bool b))) : CallR X (.builtin "isinstance") (rIs X.K T (w1 o)) := by
  intro pins s σ H xs us Q I r h
  obtain ⟨x, rfl, L, B, Hs, Hi, p, k, sm, ok, hs, hp, ⟨a, ea, hw⟩, after⟩ := h
  obtain ⟨b, hb, hk⟩ := ho a k hw
  exact call_isi pins s σ H _ us Q I r ⟨x, .ty T, _, .type T, b, rfl, .ty T, (hp.dq sm ea).ty, kit_ty hb, after.flat hk sm ok (.bl _)⟩
theorem is_int : ∀ d k, b1 .isInt d k → ∃ b, kitB (tyOf d) "int" = some b ∧ k (.d (.bool b)) := by
  intro d k h
  cases d with
  | none => exact ⟨false, (by decide +kernel : kitB "NoneType" "int" = some false), h⟩
  | bool _ => exact ⟨true, (by decide +kernel : kitB "bool" "int" = some true), h⟩
  | int _ => exact ⟨true, (by decide +kernel : kitB "int" "int" = some true), h⟩
  | str _ => exact ⟨false, (by decide +kernel : kitB "str" "int" = some false), h⟩
  | list _ => exact ⟨false, (by decide +kernel : kitB "list" "int" = some false), h⟩
  | tuple _ => exact ⟨false, (by decide +kernel : kitB "tuple" "int" = some false), h⟩
  | dict _ => exact h.elim
theorem is_bool : ∀ d k, b1 .isBool d k → ∃ b, kitB (tyOf d) "bool" = some b ∧ k (.d (.bool b)) := by
  intro d k h
  cases d with
  | none => exact ⟨false, (by decide +kernel : kitB "NoneType" "bool" = some false), h⟩
  | bool _ => exact ⟨true, (by decide +kernel : kitB "bool" "bool" = some true), h⟩
  | int _ => exact ⟨false, (by decide +kernel : kitB "int" "bool" = some false), h⟩
  | str _ => exact ⟨false, (by decide +kernel : kitB "str" "bool" = some false), h⟩
  | list _ => exact ⟨false, (by decide +kernel : kitB "list" "bool" = some false), h⟩
  | tuple _ => exact ⟨false, (by decide +kernel : kitB "tuple" "bool" = some false), h⟩
  | dict _ => exact h.elim
theorem is_tuple : ∀ d k, b1 .isTuple d k → ∃ b, kitB (tyOf d) "tuple" = some b ∧ k (.d (.bool b)) := by
  intro d k h
  cases d with
  | none => exact ⟨false, (by decide +kernel : kitB "NoneType" "tuple" = some false), h⟩
  | bool _ => exact ⟨false, (by decide +kernel : kitB "bool" "tuple" = some false), h⟩
  | int _ => exact ⟨false, (by decide +kernel : kitB "int" "tuple" = some false), h⟩
  | str _ => exact ⟨false, (by decide +kernel : kitB "str" "tuple" = some false), h⟩
  | list _ => exact ⟨false, (by decide +kernel : kitB "list" "tuple" = some false), h⟩
  | tuple _ => exact ⟨true, (by decide +kernel : kitB "tuple" "tuple" = some true), h⟩
  | dict _ => exact h.elim
theorem is_str : ∀ d k, b1 .isStr d k → ∃ b, kitB (tyOf d) "str" = some b ∧ k (.d (.bool b)) := by
  intro d k h
  cases d with
  | none => exact ⟨false, (by decide +kernel : kitB "NoneType" "str" = some false), h⟩
  | bool _ => exact ⟨false, (by decide +kernel : kitB "bool" "str" = some false), h⟩
  | int _ => exact ⟨false, (by decide +kernel : kitB "int" "str" = some false), h⟩
  | str _ => exact ⟨true, (by decide +kernel : kitB "str" "str" = some true), h⟩
  | list _ => exact ⟨false, (by decide +kernel : kitB "list" "str" = some false), h⟩
  | tuple _ => exact ⟨false, (by decide +kernel : kitB "tuple" "str" = some false), h⟩
  | dict _ => exact h.elim
end
end Un
end
section
/-! Un: a def's promise where no repr runs around (guards), the calls of such defs. -/
namespace Un
open PySem PySem.Spec PyProof.Rows L2

structure RoomG (k : Nat) (A : Around) : Prop where
  r : Room k A
  g : A.guards = some []
theorem RoomG.mono {j k : Nat} {A : Around} (q : RoomG k A) (h : j ≤ k) : RoomG j A := ⟨q.r.mono h, q.g⟩
theorem RoomG.deeper {k : Nat} {A : Around} (q : RoomG (k + 1) A) (env : Env) : RoomG k (A.deeper env) := ⟨q.r.deeper env, q.g⟩

section
variable (P : Program) (w : World) (K : PySem.W.Frag) (mg : Str → Option Value) (base : Heap)
structure FnG (k : Nat) (f : Addr) (fd : FuncData) (ps : List Str) (sp : Sp) : Prop where
  len : ∀ vs H Q E, sp vs H Q E → vs.length = ps.length
  run : ∀ (A : Around) (outer : List Env) (s : Shared) (H : Hp) (args : Args) (us : List Value) (vs : List V) (Q : VK) (E : XK),
    RoomG k A → Env0 P w K mg base A outer s H → BindsTo s fd args (ps.zip us) → Vals vs us → sp vs H Q E →
      codeAny (model P w) A (.call (.ref f) args) (CR (L2.CX P w) outer P w H s Q E) s
end
theorem FnG.mono {P : Program} {w : World} {K : PySem.W.Frag} {mg : Str → Option Value} {base : Heap} {j k : Nat} {f : Addr} {fd : FuncData} {ps : List Str} {sp : Sp} (F : FnG P w K mg base j f fd ps sp) (h : j ≤ k) : FnG P w K mg base k f fd ps sp :=
  ⟨F.len, fun A outer s H args us vs Q E hr => F.run A outer s H args us vs Q E (hr.mono h)⟩
theorem FnG.imp {P : Program} {w : World} {K : PySem.W.Frag} {mg : Str → Option Value} {base : Heap} {k : Nat} {f : Addr} {fd : FuncData} {ps : List Str} {sp sp' : Sp} (F : FnG P w K mg base k f fd ps sp)
    (h : ∀ vs H Q E, sp' vs H Q E → sp vs H Q E) : FnG P w K mg base k f fd ps sp' :=
  ⟨fun vs H Q E q => F.len vs H Q E (h _ _ _ _ q), fun A outer s H args us vs Q E hr he hb hv hs => F.run A outer s H args us vs Q E hr he hb hv (h _ _ _ _ hs)⟩

section
variable {X : Cx} {k : Nat} {f : Addr} {fd : FuncData} {ps ks : List Str} {sp : Sp} {W : WX} {x : Str} {p pos : Pos} {e : Expr} {es : List Expr} {kws : List Keyword} {t tk : TA}
/-- the callee runs; what it raises is wished for at the slots as they stand -/
theorem run_fnG {pins : List (Addr × Obj)} {σ : L2.St} {H : Hp} {s : Shared} {Q : VK} {us : List Value} {vs : List V} {args : Args} (F : FnG X.prog X.w X.K X.mg X.base k f fd ps sp) (hr : RoomG k X.A) (htk : Takes X W)
    (hb : BindsTo s fd args (ps.zip us)) (I : Inv X pins σ H s) (r : Vals vs us) (h : sp vs H Q (fun cls d H' => W cls d σ H')) :
    codeAny (model X.prog X.w) X.A (.call (.ref f) args) (fun q s' => match q with
      | .ok (.ret u) => EP X pins σ Q u s'
      | .ok _ => False
      | .error e => X.xe e s') s := by
  refine codeAny_mono (F.run X.A X.stack s H args us vs Q _ hr I.env0 hb r h) fun q s' hq => ?_
  cases q with
  | error e => exact htk e s' (XE.of_call I (fun _ _ _ z => z) hq)
  | ok fl =>
    cases fl with
    | ret u => exact I.after hq
    | next => exact False.elim hq
    | brk => exact False.elim hq
    | cont => exact False.elim hq
theorem call_fnG {pins : List (Addr × Obj)} {σ : L2.St} {H : Hp} {s : Shared} {Q : VK} {us ws zs : List Value} {vs : List V} (F : FnG X.prog X.w X.K X.mg X.base k f fd ps sp) (hr : RoomG k X.A) (htk : Takes X W)
    (hb : BindsTo s fd ⟨us, ks.zip zs⟩ (ps.zip ws)) (I : Inv X pins σ H s) (r : Vals vs ws) (h : sp vs H Q (fun cls d H' => W cls d σ H')) :
    wpAny (model X.prog X.w) X.A (call (.ref f) us (ks.zip zs)) (EP X pins σ Q) X.xe s := by
  refine wpAny_call (codeAny_mono (run_fnG F hr htk hb I r h) fun q s' hq => ?_)
  cases q with
  | error e => exact hq
  | ok fl =>
    cases fl with
    | ret u => exact hq
    | next => exact False.elim hq
    | brk => exact False.elim hq
    | cont => exact False.elim hq
/-- a call's reading: positional values, keywords' values, put in the parameters' order -/
def tCallG (sp : Sp) (n m : Nat) (gV : List V → List V → List V) (W : WX) (t tk : TA) : TE := fun σ H Q => t σ H fun vs H1 => tk σ H1 fun zs H2 => vs.length = n ∧ zs.length = m ∧ sp (gV vs zs) H2 Q (fun cls d H' => W cls d σ H')
/-- how n values and the keywords ks bind -/
structure KBg (K : PySem.W.Frag) (fd : FuncData) (n : Nat) (ps ks : List Str) (g : List Value → List Value → List Value) (gV : List V → List V → List V) : Prop where
  to : ∀ (s : Shared) (us ws : List Value), K.In s.heap → us.length = n → ws.length = ks.length → BindsTo s fd ⟨us, ks.zip ws⟩ (ps.zip (g us ws))
  rel : ∀ {vs : List V} {us : List Value} {zs : List V} {ws : List Value}, Vals vs us → Vals zs ws → Vals (gV vs zs) (g us ws)
variable {g : List Value → List Value → List Value} {gV : List V → List V → List V} {n : Nat}
/-- the names and the worths of keywords -/
theorem kw_all (pos : Pos) (env : Env) : ∀ kws : List Keyword, (kws.all fun q => q.arg.isSome) = true → (backToKw pos (keywordEach kws env)).all (·.1.isSome) = true ∧ (backToKw pos (keywordEach kws env)).any (·.1.isNone) = false ∧
    (backToKw pos (keywordEach kws env)).filterMap (·.1) = kws.filterMap (·.arg) ∧ (backToKw pos (keywordEach kws env)).length = kws.length
  | [], _ => ⟨rfl, rfl, rfl, rfl⟩
  | ⟨nm, v, kp⟩ :: r, h => by
    rw [List.all_cons, Bool.and_eq_true] at h
    obtain ⟨h1, h2, h3, h4⟩ := kw_all pos env r h.2
    have e : backToKw pos (keywordEach (⟨nm, v, kp⟩ :: r) env) = (nm, do let v ← eval v env; standAt pos; pure v) :: backToKw pos (keywordEach r env) := rfl
    rw [e]
    have hn : nm.isSome = true := h.1
    refine ⟨?_, ?_, ?_, ?_⟩
    · rw [List.all_cons, h1, hn] <;> rfl
    · rw [List.any_cons, h2]
      cases nm with
      | none => cases hn
      | some z => rfl
    · cases nm with
      | none => cases hn
      | some z =>
        show z :: (backToKw pos (keywordEach r env)).filterMap (·.1) = z :: r.filterMap (·.arg)
        rw [h3]
    · rw [List.length_cons, List.length_cons, h4]
theorem call_kG {pins : List (Addr × Obj)} {σ : L2.St} {H : Hp} {s : Shared} {Q : VK} {us ws : List Value} {vs zs : List V} (F : FnG X.prog X.w X.K X.mg X.base k f fd ps sp) (hr : RoomG k X.A) (hb : KBg X.K fd n ps ks g gV) (htk : Takes X W)
    (I : Inv X pins σ H s) (r : Vals vs us) (rz : Vals zs ws) (hn : vs.length = n) (hl : zs.length = ks.length) (h : sp (gV vs zs) H Q (fun cls d H' => W cls d σ H')) : wpAny (model X.prog X.w) X.A (call (.ref f) us (ks.zip ws)) (EP X pins σ Q) X.xe s := by
  have r2 := hb.rel r rz
  exact call_fnG F hr htk (hb.to s us ws I.kIn (by rw [← r.length]; exact hn) (by rw [← rz.length]; exact hl)) I r2 h
/-- f(k = v, ..) -/
theorem pe_callG0 (F : FnG X.prog X.w X.K X.mg X.base k f fd ps sp) (hr : RoomG k X.A) (hg : Gl X x) (hm : X.mg x = some (.ref f)) (hk : PySem.W.keepIn X.K (.ref f) = true) (hb : KBg X.K fd n ps (kws.filterMap (·.arg)) g gV) (htk : Takes X W)
    (hkw : PK X kws tk) (hks : (kws.all fun q => q.arg.isSome) = true) (hdb : (x == ("__debug__" : Str)) = false) :
    PE X (.Call (.Name x p) [] kws pos) (tCallG sp n (kws.filterMap (·.arg)).length gV W tNil tk) := by
  obtain ⟨k1, k2, k3, k4⟩ := kw_all pos X.env kws hks
  refine ⟨fun pins s σ H Q I h => ?_⟩
  refine wpAny_Call_Name_kw (ld_glob I hg hm ?_ hdb)
  refine PySem.W.callWith_KW0 (h₀ := X.base) I.ok.mod.kin hk k1 (thn (hkw.run pos pins s σ H _ I h) fun ws s2 ⟨zs, H2, I2, rz, hn, hl, q2⟩ => ⟨I2.kIn, ?_⟩) (by rw [k2] <;> rfl)
  rw [k3]
  exact call_kG F hr hb htk I2 .nil rz hn hl q2
/-- f(e, .., k = v, ..) -/
theorem pe_callG (F : FnG X.prog X.w X.K X.mg X.base k f fd ps sp) (hr : RoomG k X.A) (hg : Gl X x) (hm : X.mg x = some (.ref f)) (hk : PySem.W.keepIn X.K (.ref f) = true) (hb : KBg X.K fd n ps (kws.filterMap (·.arg)) g gV) (htk : Takes X W)
    (ha : PA X (e :: es) t) (hkw : PK X kws tk) (hks : (kws.all fun q => q.arg.isSome) = true) (hdb : (x == ("__debug__" : Str)) = false)
    (hst : starEach (e :: es) X.env = (false, eval e X.env) :: starEach es X.env) (hpl : (backTo pos (starEach es X.env)).any (·.1) = false) :
    PE X (.Call (.Name x p) (e :: es) kws pos) (tCallG sp n (kws.filterMap (·.arg)).length gV W t tk) := by
  obtain ⟨k1, k2, k3, k4⟩ := kw_all pos X.env kws hks
  refine ⟨fun pins s σ H Q I h => ?_⟩
  refine wpAny_Call_Name_kw (ld_glob I hg hm ?_ hdb)
  refine PySem.W.callWith_KW (h₀ := X.base) I.ok.mod.kin hk k1 (thn (ha.run pos pins s σ H _ I h) fun us s1 ⟨vs, H1, I1, r, q⟩ => ?_) (by
    rw [k2, Bool.or_false, hst]
    show (false || (backTo pos (starEach es X.env)).any (·.1)) = false
    rw [hpl] <;> rfl) hst
  refine thn (hkw.run pos pins s1 σ H1 _ I1 q) fun ws s2 ⟨zs, H2, I2, rz, hn, hl, q2⟩ => ⟨I2.kIn, ?_⟩
  rw [k3]
  exact call_kG F hr hb htk I2 r rz hn hl q2
/-- a def of the text, by its body -/
theorem fn_ofG {P : Program} {w : World} {K : PySem.W.Frag} {mg : Str → Option Value} {base : Heap} {k : Nat} {f : Addr} {x qual : Str} {params : Arguments} {body : List Stmt} {scope : Scope} {dvs : List V} {kws : List (Str × V)} {fd : FuncData} {N ps : List Str} {sp : Sp}
    (F : FunD K x qual params body scope dvs kws f fd) (S : FnScope N ps scope) (len : ∀ vs H Q E, sp vs H Q E → vs.length = ps.length)
    (hbody : ∀ (cdv : Value) (A : Around) (outer : List Env) (s : Shared) (H : Hp) (vs : List V) (Q : VK) (E : XK), RoomG k (A.deeper (envOfC qual scope s.heap.objs.size f cdv)) → sp vs H Q E →
      ∃ t, PSs (cxOf (L2.CX P w) P w K mg base N qual scope f cdv A outer s H E) body t ∧ t { nx := fun _ H' => Q .non H', rt := Q } (start N vs) H) : FnG P w K mg base (k + 1) f fd ps sp := by
  obtain ⟨oc, od, dV, kV, doc, pm, an, cdv, ct, osl, rfl, lk, hcd, _, _⟩ := F.ex
  refine ⟨len, fun A outer s H args us vs Q E hr e0 hb rv hsp => ?_⟩
  have hl : vs.length = ps.length := len _ _ _ _ hsp
  have up : ∀ b o, base.get? b = some o → s.heap.get? b = some o := fun b o e => (e0.bs b o e).1
  have KX : K.In s.heap := e0.mod.kin.keeps up
  have hcell : ∀ y ∈ ps.zip us, scope.names.lookup y.1 = some .local ∨ (scope.names.lookup y.1 = some .cell ∧ ((cellsFrom (s.heap.objs.size + 1) scope.names []).lookup y.1).isSome = true) := by
    rintro ⟨nm, v⟩ hy
    cases S.par nm (List.of_mem_zip hy).1 with
    | inl q => exact .inl q
    | inr q => exact .inr ⟨q, PySem.W.cellsFrom_some _ _ _ (.inl q)⟩
  refine codeAny_call_function hr.r.depth (KX _ _ lk) rfl S.co S.gen rfl (PySem.W.codeRec_of KX hcd) (hb _ _ _ _ (wpAny_newFunctionEnv_cells S.kind hcell ?_))
  intro env he s1 x
  subst he
  obtain ⟨t, ht, hq⟩ := hbody cdv A outer s H vs Q E (hr.deeper _) hsp
  have I0 := inv_start (CX := L2.CX P w) (E := E) S hr.r.hd e0 hl rv x
  have fin : ∀ {σ' : L2.St} {H' : Hp} {v : V} {u : Value} {s' : Shared}, Inv (cxOf (L2.CX P w) P w K mg base N qual scope f cdv A outer s H E) [] σ' H' s' → RelV v u → Q v H' → CE outer P w H s Q u s' := by
    intro σ' H' v u s' J r q
    exact ⟨v, H', J.os, J.bare, J.base, J.hok, r, q⟩
  refine ⟨(e0.mod.nolimit.keeps up).keeps x.toInCall.keep, codeAny_func (wpAny_mono (ht.run [] s1 _ H _ I0 hq) ?_ fun _ _ z => z)⟩
  intro fl s' hs
  cases fl with
  | next =>
    obtain ⟨σ', H', J, q⟩ := hs
    exact fin (v := V.non) (u := Value.none) J rfl q
  | ret u =>
    obtain ⟨v, σ', H', J, r, q⟩ := hs
    exact fin J r q
  | brk =>
    obtain ⟨_, _, _, q⟩ := hs
    exact q.elim
  | cont =>
    obtain ⟨_, _, _, q⟩ := hs
    exact q.elim
end
end Un
end
section
/-! Un: the readings: what a phrase of the pure language wants of the abstract state. -/
namespace Un
open PySem PySem.Spec L2

/-- what a law fixes once: the kit, which source, how errors lie, what is wanted of an error -/
structure Lay where
  K : PySem.W.Frag
  κ : Loc → Prop
  XR : Nat → List PyData → Value → Option Addr → Hp → Hp → Prop
  W : WX
/-- no error is wanted -/
def Lay.mute (l : Lay) : Lay := { l with W := fun _ _ _ _ => False }
/-- the state an expression starts from -/
structure Stt (l : Lay) (x : KX) (L : Loc) (Hi0 B Hi : Hp) (σ : L2.St) (H : Hp) (ρ : List SV) : Prop where
  k : l.κ L
  r : Rel l.K L Hi0 B Hi σ H ρ
  e : ∀ c fs cls d Hi' H', x c fs → Grow L Hi H Hi' H' → L.ok H' → l.XR c fs cls d Hi' H' → l.W cls d σ H'
section
variable {l : Lay} {x : KX} {L : Loc} {Hi0 B Hi H Hi' H' Hs : Hp} {σ : L2.St} {ρ : List SV}
theorem Stt.step (s : Stt l x L Hi0 B Hi σ H ρ) (g : Grow L Hi H Hi' H') (ok : L.ok H') : Stt l x L Hi0 B Hi' σ H' ρ :=
  ⟨s.k, s.r.step g ok, fun c fs cls d Hi2 H2 h1 h2 h3 h4 => s.e c fs cls d Hi2 H2 h1 (g.trans h2) h3 h4⟩
theorem Stt.bnf (s : Stt l x L Hi0 B Hi σ H ρ) : ∀ p, B p = none → ¬ L.foot p := Loc.nofoot s.r.srcB
theorem Stt.hnf (s : Stt l x L Hi0 B Hi σ H ρ) : ∀ p, H p = none → ¬ L.foot p := Loc.nofoot s.r.src
theorem Stt.hb (s : Stt l x L Hi0 B Hi σ H ρ) : ∀ p, H p = none → B p = none := s.r.g.dom
end

def tV (l : Lay) (x : KX) (f : List SV → KA → Prop) : TE := fun σ H Q => ∃ L Hi0 B Hi ρ k, Stt l x L Hi0 B Hi σ H ρ ∧ f ρ k ∧ After l.K L B H Hi H k Q
def AfterL (K : PySem.W.Frag) (L : Loc) (B Hs Hi H : Hp) (k : List AV → Prop) (Q : List V → Hp → Prop) : Prop :=
  ∀ as, k as → ∀ vs Hi' H', Grow L Hi H Hi' H' → L.ok H' → LsOk K L B Hs Hi' H' vs as → Q vs H'
def tL (l : Lay) (x : KX) (f : List SV → (List AV → Prop) → Prop) : TA := fun σ H Q => ∃ L Hi0 B Hi ρ k, Stt l x L Hi0 B Hi σ H ρ ∧ f ρ k ∧ AfterL l.K L B H Hi H k Q
/-- behind a pure answer -/
def AfterP {α : Type} (L : Loc) (Hi H : Hp) (k : α → Prop) (Q : α → Hp → Prop) : Prop := ∀ a, k a → ∀ Hi' H', Grow L Hi H Hi' H' → L.ok H' → Q a H'
def tP {α : Type} (l : Lay) (x : KX) (f : List SV → (α → Prop) → Prop) : L2.St → Hp → (α → Hp → Prop) → Prop := fun σ H Q => ∃ L Hi0 B Hi ρ k, Stt l x L Hi0 B Hi σ H ρ ∧ f ρ k ∧ AfterP L Hi H k Q
abbrev tT (l : Lay) (x : KX) (f : List SV → (Bool → Prop) → Prop) : TT := tP l x f
abbrev tO (l : Lay) (x : KX) (f : List SV → (Option Int → Prop) → Prop) : TO := tP l x f
/-- an iterator that gives these, whatever grows meanwhile -/
structure ItOk (K : PySem.W.Frag) (L : Loc) (Hi1 H1 : Hp) (J : It) (xs : List PyData) : Prop where
  go : ∀ (i : Nat) Hi H, Same Hi1 Hi → Same Hi H → (∀ a, H a = none → H1 a = none) → L.ok H → i < xs.length → J.go i H
  stop : ∀ (i : Nat) Hi H, Same Hi1 Hi → Same Hi H → (∀ a, H a = none → H1 a = none) → L.ok H → i = xs.length → J.stop i H
  yld : ∀ (i : Nat) Hi H x v H', Same Hi1 Hi → Same Hi H → (∀ a, H a = none → H1 a = none) → L.ok H → xs[i]? = some x → J.yld i H v H' → ∃ Hi', Grow L Hi H Hi' H' ∧ L.ok H' ∧ Dq K Hi' v x
def AfterI (K : PySem.W.Frag) (L : Loc) (Hi H : Hp) (k : List PyData → Prop) (R : It → Hp → Prop) : Prop := ∀ xs, k xs → ∀ J Hi' H', Grow L Hi H Hi' H' → L.ok H' → ItOk K L Hi' H' J xs → R J H'
def tI (l : Lay) (x : KX) (f : List SV → (List PyData → Prop) → Prop) : TI := fun σ H R => ∃ L Hi0 B Hi ρ k, Stt l x L Hi0 B Hi σ H ρ ∧ f ρ k ∧ AfterI l.K L Hi H k R

section
variable {l : Lay} {x : KX} {K : PySem.W.Frag} {L : Loc} {B Hs Hi H Hi' H' Hi2 H2 : Hp} {ρ : List SV} {k : KA} {Q : VK}
/-- from a later state, started earlier -/
theorem After.later (h : After K L B Hs Hi H k Q) (g : Grow L Hi H Hi' H') {Hs' : Hp} (e : ∀ p, Hs' p = none → Hs p = none) : After K L B Hs' Hi' H' k Q := fun av hk v Hi2 H2 g2 ok2 ha => h av hk v Hi2 H2 (g.trans g2) ok2 (ha.early e)
theorem tP.mono {α : Type} {f : List SV → (α → Prop) → Prop} {σ : L2.St} {Q Q' : α → Hp → Prop} (h : tP l x f σ H Q) (i : ∀ a H', Q a H' → Q' a H') : tP l x f σ H Q' := by
  obtain ⟨L, Hi0, B, Hi, ρ, k, s, hf, ha⟩ := h
  exact ⟨L, Hi0, B, Hi, ρ, k, s, hf, fun a hk Hi' H' g ok => i _ _ (ha a hk Hi' H' g ok)⟩
theorem tV.mono {f : List SV → KA → Prop} {σ : L2.St} {Q Q' : VK} (h : tV l x f σ H Q) (i : ∀ a H', Q a H' → Q' a H') : tV l x f σ H Q' := by
  obtain ⟨L, Hi0, B, Hi, ρ, k, s, hf, ha⟩ := h
  exact ⟨L, Hi0, B, Hi, ρ, k, s, hf, fun a hk v Hi' H' g ok h => i _ _ (ha a hk v Hi' H' g ok h)⟩

/-- two worths, then an operator -/
theorem rd_op {o : O2} {f g : List SV → KA → Prop} {σ : L2.St} (h : tV l x (fun ρ k => f ρ fun p => g ρ fun q => w2 o p q k) σ H Q) : tOp (rW l.K o) (tV l x f) (tV l x g) σ H Q := by
  obtain ⟨L, Hi0, B, Hi, ρ, k, s, hf, ha⟩ := h
  refine ⟨L, Hi0, B, Hi, ρ, _, s, hf, fun p hp v Hi1 H1 g1 ok1 hv => ?_⟩
  refine ⟨L, Hi0, B, Hi1, ρ, _, s.step g1 ok1, hp, fun q hq u Hi2 H2 g2 ok2 hu => ?_⟩
  refine ⟨L, B, H, Hi2, p, q, k, g2.sub, ok2, fun a e => g1.dom a (g2.dom a e), hv.mono g2 s.hnf s.bnf, hu.early g1.dom, hq, ?_⟩
  exact ha.later (g1.trans g2) (fun _ e => e)
/-- the same as a test; only an answer that is a bool -/
theorem w2_bool {o : O2} {op : CmpOp} (ho : isCmp o = some op) {p q : AV} {k : KA} (h : w2 o p q k) : w2 o p q fun a => (∃ b, a = .d (.bool b)) ∧ k a := by
  obtain ⟨a, b, ea, eb, h⟩ := h
  refine ⟨a, b, ea, eb, ?_⟩
  cases o with
  | eq => unfold b2 at h ⊢; cases a <;> cases b <;> first | exact ⟨h.1, h.2.1, ⟨_, rfl⟩, h.2.2⟩ | exact ⟨⟨_, rfl⟩, h⟩
  | ne => unfold b2 at h ⊢; cases a <;> cases b <;> first | exact ⟨h.1, h.2.1, ⟨_, rfl⟩, h.2.2⟩ | exact ⟨⟨_, rfl⟩, h⟩
  | lt => unfold b2 at h ⊢; cases a <;> cases b <;> first | exact ⟨⟨_, rfl⟩, h⟩ | exact h.elim
  | le => unfold b2 at h ⊢; cases a <;> cases b <;> first | exact ⟨⟨_, rfl⟩, h⟩ | exact h.elim
  | gt => unfold b2 at h ⊢; cases a <;> cases b <;> first | exact ⟨⟨_, rfl⟩, h⟩ | exact h.elim
  | ge => unfold b2 at h ⊢; cases a <;> cases b <;> first | exact ⟨⟨_, rfl⟩, h⟩ | exact h.elim
  | _ => cases ho
theorem rd_cmpT {o : O2} {op : CmpOp} (ho : isCmp o = some op) {f g : List SV → KA → Prop} {σ : L2.St} {Q : Bool → Hp → Prop} (h : tT l x (fun ρ k => f ρ fun p => g ρ fun q => w2 o p q fun a => truthW a k) σ H Q) :
    tTest (tOp (rW l.K o) (tV l x f) (tV l x g)) σ H Q := by
  obtain ⟨L, Hi0, B, Hi, ρ, k, s, hf, ha⟩ := h
  refine ⟨L, Hi0, B, Hi, ρ, _, s, hf, fun p hp v Hi1 H1 g1 ok1 hv => ?_⟩
  refine ⟨L, Hi0, B, Hi1, ρ, _, s.step g1 ok1, hp, fun q hq u Hi2 H2 g2 ok2 hu => ?_⟩
  refine ⟨L, B, H, Hi2, p, q, _, g2.sub, ok2, fun a e => g1.dom a (g2.dom a e), hv.mono g2 s.hnf s.bnf, hu.early g1.dom, w2_bool ho hq, ?_⟩
  rintro av ⟨⟨b, rfl⟩, hk⟩ w Hi3 H3 g3 ok3 hw
  have e : w = .bl b := hw.bool rfl
  refine ⟨b, e, ?_⟩
  obtain ⟨y, ey, hy⟩ := hk
  cases ey
  exact ha b hy Hi3 H3 ((g1.trans g2).trans g3) ok3
/-- one worth, then an operator -/
theorem rd_un {w : AV → KA → Prop} {f : List SV → KA → Prop} {σ : L2.St} (h : tV l x (fun ρ k => f ρ fun p => w p k) σ H Q) : tUn (rW1 l.K w) (tV l x f) σ H Q := by
  obtain ⟨L, Hi0, B, Hi, ρ, k, s, hf, ha⟩ := h
  refine ⟨L, Hi0, B, Hi, ρ, _, s, hf, fun p hp v Hi1 H1 g1 ok1 hv => ?_⟩
  exact ⟨L, B, H, Hi1, p, k, g1.sub, ok1, g1.dom, hv, hp, ha.later g1 (fun _ e => e)⟩
/-- a truth -/
theorem AvOk.tru {v : V} {a : AV} {k : Bool → Prop} (h : AvOk K L B Hs Hi H v a) (sm : Same Hi H) (hw : truthW a k) : ∃ b, TruV K v H b ∧ k b := by
  obtain ⟨d, e, hw⟩ := hw
  have hl : ∀ {vs : List V} {xs : List PyData}, DqAll K Hi vs xs → (!vs.isEmpty) = !xs.isEmpty := fun h => by
    cases h <;> rfl
  cases d with
  | none =>
    obtain ⟨rfl, q⟩ := h.flat e (fun _ z => nomatch z)
    cases q
    exact ⟨false, rfl, hw⟩
  | bool b => obtain rfl := h.bool e; exact ⟨b, rfl, hw⟩
  | int i => obtain rfl := h.int e; exact ⟨_, rfl, hw⟩
  | str z =>
    obtain rfl := h.str e
    have e2 : ((z.length : Int) != 0) = (z.length != 0) := by cases z.length <;> rfl
    exact ⟨_, ⟨hw.1, rfl⟩, by rw [e2]; exact hw.2⟩
  | list xs =>
    obtain ⟨p, vs, rfl, h1, d1⟩ := h.list sm e
    exact ⟨!vs.isEmpty, .inl ⟨vs, SqL.of h1, rfl⟩, by rw [hl d1]; exact hw⟩
  | tuple xs =>
    obtain ⟨p, vs, rfl, h0, h1, d1⟩ := h.tuple sm e
    exact ⟨!vs.isEmpty, .inr (.inl ⟨vs, h1, rfl⟩), by rw [hl d1]; exact hw⟩
  | dict _ => exact hw.elim
end
end Un
end
section
/-! Un: when a text's phrase is a phrase of the pure language (a Bool, for the kernel to run). -/
namespace Un
open PySem PySem.Spec L2

mutual
def same : PyData → PyData → Bool
  | .none, .none => true
  | .bool a, .bool b => a == b
  | .int a, .int b => decide (a = b)
  | .str a, .str b => decide (a = b)
  | .list xs, .list ys => sames xs ys
  | .tuple xs, .tuple ys => sames xs ys
  | _, _ => false
def sames : List PyData → List PyData → Bool
  | [], [] => true
  | x :: xs, y :: ys => same x y && sames xs ys
  | _, _ => false
end
mutual
theorem same_eq : ∀ x y : PyData, same x y = true → x = y
  | .none, y, h => by cases y <;> first | rfl | (simp [same] at h)
  | .bool a, y, h => by cases y <;> simp [same] at h; rw [h]
  | .int a, y, h => by cases y <;> simp [same] at h; rw [h]
  | .str a, y, h => by cases y <;> simp [same] at h; rw [h]
  | .list xs, y, h => by cases y <;> simp [same] at h; rw [sames_eq xs _ h]
  | .tuple xs, y, h => by cases y <;> simp [same] at h; rw [sames_eq xs _ h]
  | .dict xs, y, h => by cases y <;> simp [same] at h
theorem sames_eq : ∀ x y : List PyData, sames x y = true → x = y
  | [], y, h => by cases y <;> simp [sames] at h; rfl
  | x :: xs, y, h => by
    cases y with
    | nil => simp [sames] at h
    | cons z zs =>
      simp [sames] at h
      rw [same_eq x z h.1, sames_eq xs zs h.2]
end

/-! ### views of a text's phrase -/
def asName : Expr → Option Str
  | .Name x _ => some x
  | _ => none
theorem asName_eq {e : Expr} {x : Str} (h : asName e = some x) : ∃ p, e = .Name x p := by
  unfold asName at h
  split at h
  · cases h; exact ⟨_, rfl⟩
  · cases h
def asDat : Expr → Option PyData
  | .Constant (.int i) _ _ => some (.int i)
  | .Constant (.bool b) _ _ => some (.bool b)
  | .Constant .none _ _ => some .none
  | .Constant (.str z) _ _ => some (.str z)
  | _ => none
def asBin : Expr → Option (Expr × Operator × Expr)
  | .BinOp a o b _ => some (a, o, b)
  | _ => none
theorem asBin_eq {e a b : Expr} {o : Operator} (h : asBin e = some (a, o, b)) : ∃ p, e = .BinOp a o b p := by
  unfold asBin at h
  split at h
  · cases h; exact ⟨_, rfl⟩
  · cases h
def asCmp : Expr → Option (Expr × CmpOp × Expr)
  | .Compare a [o] [b] _ => some (a, o, b)
  | _ => none
theorem asCmp_eq {e a b : Expr} {o : CmpOp} (h : asCmp e = some (a, o, b)) : ∃ p, e = .Compare a [o] [b] p := by
  unfold asCmp at h
  split at h
  · cases h; exact ⟨_, rfl⟩
  · cases h
def asSub : Expr → Option (Expr × Expr)
  | .Subscript a b _ => some (a, b)
  | _ => none
theorem asSub_eq {e a b : Expr} (h : asSub e = some (a, b)) : ∃ p, e = .Subscript a b p := by
  unfold asSub at h
  split at h
  · cases h; exact ⟨_, rfl⟩
  · cases h
def asSlc : Expr → Option (Option Expr × Option Expr)
  | .Slice a b none _ => some (a, b)
  | _ => none
theorem asSlc_eq {e : Expr} {a b : Option Expr} (h : asSlc e = some (a, b)) : ∃ p, e = .Slice a b none p := by
  unfold asSlc at h
  split at h
  · cases h; exact ⟨_, rfl⟩
  · cases h
def isRevS : Expr → Bool
  | .Slice none none (some (.UnaryOp .USub (.Constant (.int 1) _ _) _)) _ => true
  | _ => false
theorem isRevS_eq {e : Expr} (h : isRevS e = true) : ∃ k p1 p2 p3, e = .Slice none none (some (.UnaryOp .USub (.Constant (.int 1) k p1) p2)) p3 := by
  unfold isRevS at h
  split at h
  · exact ⟨_, _, _, _, rfl⟩
  · cases h
def asUn : Expr → Option (UnaryOp × Expr)
  | .UnaryOp o a _ => some (o, a)
  | _ => none
theorem asUn_eq {e a : Expr} {o : UnaryOp} (h : asUn e = some (o, a)) : ∃ p, e = .UnaryOp o a p := by
  unfold asUn at h
  split at h
  · cases h; exact ⟨_, rfl⟩
  · cases h
def asCall : Expr → Option (Str × List Expr × List Keyword)
  | .Call (.Name x _) es ks _ => some (x, es, ks)
  | _ => none
theorem asCall_eq {e : Expr} {x : Str} {es : List Expr} {ks : List Keyword} (h : asCall e = some (x, es, ks)) : ∃ p q, e = .Call (.Name x p) es ks q := by
  unfold asCall at h
  split at h
  · cases h; exact ⟨_, _, rfl⟩
  · cases h
def asBool : Expr → Option (BoolOp × List Expr × Pos)
  | .BoolOp o es p => some (o, es, p)
  | _ => none
theorem asBool_eq {e : Expr} {o : BoolOp} {es : List Expr} {p : Pos} (h : asBool e = some (o, es, p)) : e = .BoolOp o es p := by
  unfold asBool at h
  split at h
  · cases h; rfl
  · cases h
def asIf : Expr → Option (Expr × Expr × Expr)
  | .IfExp c a b _ => some (c, a, b)
  | _ => none
theorem asIf_eq {e c a b : Expr} (h : asIf e = some (c, a, b)) : ∃ p, e = .IfExp c a b p := by
  unfold asIf at h
  split at h
  · cases h; exact ⟨_, rfl⟩
  · cases h
def asTup : Expr → Option (List Expr)
  | .Tuple es _ _ => some es
  | _ => none
theorem asTup_eq {e : Expr} {es : List Expr} (h : asTup e = some es) : ∃ k p, e = .Tuple es k p := by
  unfold asTup at h
  split at h
  · cases h; exact ⟨_, _, rfl⟩
  · cases h
def asLst : Expr → Option (List Expr)
  | .List es _ => some es
  | _ => none
theorem asLst_eq {e : Expr} {es : List Expr} (h : asLst e = some es) : ∃ p, e = .List es p := by
  unfold asLst at h
  split at h
  · cases h; exact ⟨_, rfl⟩
  · cases h
def asLc : Expr → Option (Expr × Expr × Expr × List Expr × Scope × Pos)
  | .ListComp elt [⟨tg, iter, ifs, 0⟩] scope pos => some (elt, tg, iter, ifs, scope, pos)
  | _ => none
theorem asLc_eq {e elt tg iter : Expr} {ifs : List Expr} {scope : Scope} {pos : Pos} (h : asLc e = some (elt, tg, iter, ifs, scope, pos)) : e = .ListComp elt [⟨tg, iter, ifs, 0⟩] scope pos := by
  unfold asLc at h
  split at h
  · cases h; rfl
  · cases h
/-- its test is its value's truth -/
def plainT : Expr → Bool
  | .UnaryOp .Not _ _ => false
  | .BoolOp .. => false
  | .IfExp .. => false
  | .Compare .. => false
  | _ => true
theorem plainT_eq {e : Expr} (h : plainT e = true) (env : Env) (whole : Sem Value) : isTrue e env whole = (do let v ← whole; standAt e.pos; holding [v] (truthy v)) := by
  cases e <;> first | rfl | (simp [plainT] at h; done) | skip
  case UnaryOp o a p => cases o <;> first | rfl | (simp [plainT] at h; done)
def notStar : Expr → Bool
  | .Starred .. => false
  | _ => true
theorem star_cons {e : Expr} (h : notStar e = true) (es : List Expr) (env : Env) : starEach (e :: es) env = (false, eval e env) :: starEach es env := by
  cases e <;> first | rfl | (simp [notStar] at h; done)
theorem star_plain {pos : Pos} {env : Env} : ∀ {es : List Expr}, es.all notStar = true → (backTo pos (starEach es env)).any (·.1) = false
  | [], _ => rfl
  | e :: es, h => by
    rw [List.all_cons, Bool.and_eq_true] at h
    rw [star_cons h.1]
    show (false || (backTo pos (starEach es env)).any (·.1)) = false
    rw [star_plain h.2] <;> rfl
def notSet : Expr → Bool
  | .Set .. => false
  | _ => true
theorem notSet_eq {e : Expr} (h : notSet e = true) (env : Env) (v : Value) : foldedSetIterable e env v = pure v := by
  cases e <;> first | rfl | (simp [notSet] at h; done)
theorem notSet_in {e : Expr} (h : notSet e = true) (op : CmpOp) : behindInMarks op e = false := by
  cases e <;> first | rfl | (simp [notSet] at h; done)
def notSlc : Expr → Bool
  | .Slice .. => false
  | _ => true
theorem notSlc_eq {e : Expr} (h : notSlc e = true) : PlainIx e := by
  intro o i
  cases e <;> first | rfl | (simp [notSlc] at h; done)

/-! ### names -/
structure Pat where
  f : Nat
  x : Str
  n : Nat
  ks : List Str
  perm : List Nat
structure Nc where
  N : List Str
  pats : List Pat
  csts : List (Str × PyData)
  gcd : Bool
  k : Nat
def visB (sc : Scope) (x : Str) : Bool := match sc.names.lookup x with
  | some .local => true
  | some .cell => true
  | some .free => true
  | _ => false
theorem visB_eq {sc : Scope} {x : Str} (h : visB sc x = true) : Vis sc x := by
  unfold visB at h
  split at h
  · exact .inl (by assumption)
  · exact .inr (.inl (by assumption))
  · exact .inr (.inr (by assumption))
  · cases h
def locB (sc : Scope) (x : Str) : Bool := match sc.names.lookup x with
  | some .local => true
  | some .cell => true
  | _ => false
theorem locB_eq {sc : Scope} {x : Str} (h : locB sc x = true) : L2.Loc sc x := by
  unfold locB at h
  split at h
  · exact .inl (by assumption)
  · exact .inr (by assumption)
  · cases h
def glB (sc : Scope) (x : Str) : Bool := match sc.names.lookup x with
  | some .globalImplicit => true
  | _ => false
theorem glB_eq {sc : Scope} {x : Str} (h : glB sc x = true) : sc.names.lookup x = some .globalImplicit := by
  unfold glB at h
  split at h
  · assumption
  · cases h
def varB (nc : Nc) (sc : Scope) (i : Nat) (x : Str) : Bool := decide (nc.N[i]? = some x) && visB sc x && !(x == ("__debug__" : Str)) && !(x == ("__classdict__" : Str))
/-- the slot's name is the def's or block's own -/
def ownB (nc : Nc) (sc : Scope) (i : Nat) (x : Str) : Bool := decide (nc.N[i]? = some x) && locB sc x
/-- the names of the built-ins that the language knows -/
def bltNames : List Str := ["len", "int", "abs", "repr", "list", "tuple", "all", "any", "isinstance", "max", "min", "range", "enumerate", "zip", "reversed", "bool", "str"]
def kwB (ks : List Keyword) : Bool := ks.all fun q => q.arg.isSome

/-- a checker's readings -/
structure Ck where
  v : Scope → Expr → Bool
  t : Scope → Expr → Bool
  a : Scope → List Expr → Bool
  k : Scope → List Keyword → Bool
  i : Scope → Expr → Expr → Bool
  o : Scope → Option Expr → Bool
def oB (v : Expr → Bool) : Option Expr → Bool
  | some e => v e
  | none => false
def Ck.ofV (v : Scope → Expr → Bool) : Ck := { v := v, t := fun sc e => plainT e && v sc e, a := fun _ _ => false, k := fun _ _ => false, i := fun sc _ e => notSet e && v sc e, o := fun sc e => oB (v sc) e }
def Ck.ofI (i : Scope → Expr → Expr → Bool) : Ck := { v := fun _ _ => false, t := fun _ _ => false, a := fun _ _ => false, k := fun _ _ => false, i := fun sc tg e => notSet e && i sc tg e, o := fun _ _ => false }
def tgB (nc : Nc) (sc : Scope) : Tg → Expr → Bool
  | .nm i, e => (match asName e with
    | some x => ownB nc sc i x
    | none => false)
  | .tp is, e => (match asTup e with
    | some es => (es.length == is.length) && (is.zip es).all (fun p => match asName p.2 with
      | some x => ownB nc sc p.1 x
      | none => false)
    | none => false)
def binB (o : O2) (va vb : Expr → Bool) (e : Expr) : Bool :=
  match isBin o with
  | some op => (match asBin e with
    | some (a, op', b) => decide (op = op') && va a && vb b
    | none => false)
  | none => (match isCmp o with
    | some op => (match asCmp e with
      | some (a, op', b) => decide (op = op') && notSet b && va a && vb b
      | none => false)
    | none => (match asSub e with
      | some (a, b) => notSlc b && va a && vb b
      | none => false))
def cmpB (o : O2) (va vb : Expr → Bool) (e : Expr) : Bool :=
  match isCmp o with
  | some op => (match asCmp e with
    | some (a, op', b) => decide (op = op') && notSet b && va a && vb b
    | none => false)
  | none => false
/-- f(e) with f a built-in -/
def callB1 (nc : Nc) (sc : Scope) (nm : Str) (va : Expr → Bool) (e : Expr) : Bool := match asCall e with
  | some (x, [a], []) => decide (x = nm) && glB sc nm && notStar a && va a
  | _ => false
def isB (nc : Nc) (sc : Scope) (ty : Str) (va : Expr → Bool) (e : Expr) : Bool := match asCall e with
  | some (x, [a, t], []) => decide (x = "isinstance") && glB sc "isinstance" && notStar a && va a && decide (asName t = some ty) && glB sc ty
  | _ => false
def isNone : Expr → Bool
  | .Constant .none _ _ => true
  | _ => false
theorem isNone_eq {e : Expr} (h : isNone e = true) : ∃ k p, e = .Constant .none k p := by
  unfold isNone at h
  split at h
  · exact ⟨_, _, rfl⟩
  · cases h
def noneB (op : CmpOp) (va : Expr → Bool) (e : Expr) : Bool := match asCmp e with
  | some (a, op', b) => decide (op = op') && isNone b && va a
  | none => false
def unB (nc : Nc) (sc : Scope) (o : O1) (va : Expr → Bool) (e : Expr) : Bool :=
  match o with
  | .neg => (match asUn e with
    | some (op, a) => decide (op = .USub) && va a
    | none => false)
  | .isN => noneB .Is va e
  | .notN => noneB .IsNot va e
  | .len => callB1 nc sc "len" va e
  | .int => callB1 nc sc "int" va e
  | .abs => callB1 nc sc "abs" va e
  | .repr => callB1 nc sc "repr" va e
  | .list => callB1 nc sc "list" va e
  | .tuple => callB1 nc sc "tuple" va e
  | .all => callB1 nc sc "all" va e
  | .any => callB1 nc sc "any" va e
  | .isInt => isB nc sc "int" va e
  | .isBool => isB nc sc "bool" va e
  | .isTuple => isB nc sc "tuple" va e
  | .isStr => isB nc sc "str" va e
def fnName : O3 → Str
  | .max => "max"
  | .min => "min"
  | .gcd => "gcd"
def fn2B (nc : Nc) (sc : Scope) (o : O3) (va vb : Expr → Bool) (e : Expr) : Bool := match asCall e with
  | some (x, [a, b], []) => decide (x = fnName o) && glB sc (fnName o) && notStar a && notStar b && va a && vb b && (match o with
    | .gcd => nc.gcd
    | _ => true)
  | _ => false
def max3B (nc : Nc) (sc : Scope) (va vb vc : Expr → Bool) (e : Expr) : Bool := match asCall e with
  | some (x, [a, b, c], []) => decide (x = "max") && glB sc "max" && notStar a && notStar b && notStar c && va a && vb b && vc c
  | _ => false
/-- a and b (and ..) -/
def boolB (op : BoolOp) (ta tb : Expr → Bool) (e : Expr) : Bool := match asBool e with
  | some (op', a :: b :: r, p) => decide (op = op') && ta a && (match r with
    | [] => tb b
    | _ :: _ => tb (.BoolOp op (b :: r) p))
  | _ => false
def callB (nc : Nc) (sc : Scope) (f n m : Nat) (perm : List Nat) (ca : List Expr → Bool) (ck : List Keyword → Bool) (e : Expr) : Bool := match asCall e with
  | some (x, es, ks) => glB sc x && !(x == ("__debug__" : Str)) && decide (n = es.length) && decide (m = (ks.filterMap (·.arg)).length) && kwB ks && es.all notStar && ca es && ck ks && (match es, ks with
    | [], [] => false
    | _, _ => true) && nc.pats.any (fun p => decide (p.f = f) && decide (p.x = x) && decide (p.n = es.length) && decide (p.ks = ks.filterMap (·.arg)) && decide (p.perm = perm))
  | none => false
def ownOf (N : List Str) (own : List Nat) : List (Str × Nat) := own.map fun i => (N.getD i "", i)
def lcB (nc : Nc) (own : List Nat) (tg : Tg) (no : Bool) (ve : Scope → Expr → Bool) (ii : Scope → Expr → Expr → Bool) (tc : Scope → Expr → Bool) (sc : Scope) (e : Expr) : Bool := match asLc e with
  | some (elt, tge, iter, ifs, scope, pos) => blkC nc.N sc scope (ownOf nc.N own) && tgB nc scope tg tge && (match tg with
      | .nm i => own.contains i
      | .tp is => is.all own.contains) && ii sc tge iter && notSet iter && ve (relS scope sc) elt && (match ifs with
      | [] => no
      | [c] => !no && tc (relS scope sc) c
      | _ => false)
  | none => false
def rngB1 (sc : Scope) (va : Expr → Bool) (e : Expr) : Bool := match asCall e with
  | some (x, [a], []) => decide (x = "range") && glB sc "range" && notStar a && va a
  | _ => false
def rngB2 (sc : Scope) (va vb : Expr → Bool) (e : Expr) : Bool := match asCall e with
  | some (x, [a, b], []) => decide (x = "range") && glB sc "range" && notStar a && notStar b && va a && vb b
  | _ => false
def rngB3 (sc : Scope) (va vb vc : Expr → Bool) (e : Expr) : Bool := match asCall e with
  | some (x, [a, b, c], []) => decide (x = "range") && glB sc "range" && notStar a && notStar b && notStar c && va a && vb b && vc c
  | _ => false
def nonT (o : O1) (va : Expr → Bool) (e : Expr) : Bool := match o with
  | .isN => noneB .Is va e
  | .notN => noneB .IsNot va e
  | _ => false
def isTupE (e : Expr) : Bool := (asTup e).isSome
def chk (nc : Nc) : E → Ck
  | .dat d => .ofV fun sc e => (match asDat e with
    | some d' => same d' d
    | none => false) || (match asName e with
      | some x => glB sc x && !(x == ("__debug__" : Str)) && nc.csts.any (fun c => decide (c.1 = x) && same c.2 d)
      | none => false)
  | .var i => .ofV fun sc e => (match asName e with
    | some x => varB nc sc i x
    | none => false)
  | .bin o a b => { Ck.ofV (fun sc e => binB o ((chk nc a).v sc) ((chk nc b).v sc) e) with
      t := fun sc e => (plainT e && binB o ((chk nc a).v sc) ((chk nc b).v sc) e) || cmpB o ((chk nc a).v sc) ((chk nc b).v sc) e }
  | .un o a => { Ck.ofV (fun sc e => unB nc sc o ((chk nc a).v sc) e) with
      t := fun sc e => (plainT e && unB nc sc o ((chk nc a).v sc) e) || nonT o ((chk nc a).v sc) e }
  | .fn2 o a b => .ofV fun sc e => fn2B nc sc o ((chk nc a).v sc) ((chk nc b).v sc) e
  | .max3 a b c => .ofV fun sc e => max3B nc sc ((chk nc a).v sc) ((chk nc b).v sc) ((chk nc c).v sc) e
  | .band a b => { Ck.ofV (fun sc e => boolB .And ((chk nc a).v sc) ((chk nc b).v sc) e) with t := fun sc e => boolB .And ((chk nc a).t sc) ((chk nc b).t sc) e }
  | .bor a b => { Ck.ofV (fun sc e => boolB .Or ((chk nc a).v sc) ((chk nc b).v sc) e) with t := fun sc e => boolB .Or ((chk nc a).t sc) ((chk nc b).t sc) e }
  | .bnot a => { Ck.ofV (fun sc e => match asUn e with
      | some (op, b) => decide (op = .Not) && (chk nc a).v sc b
      | none => false) with t := fun sc e => match asUn e with
      | some (op, b) => decide (op = .Not) && (chk nc a).t sc b
      | none => false }
  | .ife c a b => .ofV fun sc e => (match asIf e with
    | some (ec, ea, eb) => (chk nc c).t sc ec && (chk nc a).v sc ea && (chk nc b).v sc eb
    | none => false)
  | .tup es => .ofV fun sc e => (match asTup e with
    | some xs => (chk nc es).a sc xs
    | none => false)
  | .lst es => .ofV fun sc e => (match asLst e with
    | some xs => (chk nc es).a sc xs
    | none => false)
  | .slc a lo hi => .ofV fun sc e => (match asSub e with
    | some (x, s) => (match asSlc s with
      | some (l, h) => (chk nc a).v sc x && (chk nc lo).o sc l && (chk nc hi).o sc h
      | none => false)
    | none => false)
  | .rev a => .ofV fun sc e => (match asSub e with
    | some (x, s) => isRevS s && (chk nc a).v sc x
    | none => false)
  | .call f perm es ks => .ofV fun sc e => callB nc sc f (eLen es) (eLen ks) perm ((chk nc es).a sc) ((chk nc ks).k sc) e
  | .cmp own elt tg it c => .ofV fun sc e => lcB nc own tg (isNo c) (chk nc elt).v (chk nc it).i (chk nc c).t sc e
  | .rng1 a => .ofI fun sc _ e => rngB1 sc ((chk nc a).v sc) e
  | .rng2 a b => .ofI fun sc _ e => rngB2 sc ((chk nc a).v sc) ((chk nc b).v sc) e
  | .rng3 a b c => .ofI fun sc _ e => rngB3 sc ((chk nc a).v sc) ((chk nc b).v sc) ((chk nc c).v sc) e
  | .enu a => .ofI fun sc tg e => isTupE tg && callB1 nc sc "enumerate" ((chk nc a).v sc) e
  | .zip2 a b => .ofI fun sc tg e => isTupE tg && (match asCall e with
    | some (x, [p, q], []) => decide (x = "zip") && glB sc "zip" && notStar p && notStar q && (chk nc a).v sc p && (chk nc b).v sc q
    | _ => false)
  | .rvd a => .ofI fun sc _ e => callB1 nc sc "reversed" ((chk nc a).v sc) e
  | .no => { Ck.ofI (fun _ _ _ => false) with o := fun _ e => e.isNone }
  | .nil => { Ck.ofI (fun _ _ _ => false) with a := fun _ es => es.isEmpty, k := fun _ ks => ks.isEmpty }
  | .cons a r => { Ck.ofI (fun _ _ _ => false) with
      a := fun sc es => match es with
        | e :: es => notStar e && (chk nc a).v sc e && (chk nc r).a sc es
        | [] => false
      k := fun sc ks => match ks with
        | q :: ks => (chk nc a).v sc q.value && (chk nc r).k sc ks
        | [] => false }
end Un
end
section
/-! Un: enumerate of a tuple; a sequence of either kind walked. -/
namespace PySem
open Sem (wp)
open AutoSeq1 (wpAny_loadPart')
/-- enumerate(v), v told by what its iterator is -/
theorem unMeetsEnum {v : Value} {io : Obj} {Ht : Heap → Prop} (Bg : Begins v io Ht) : Meets (Builtin.«enumerate.__new__» ⟨[.type "enumerate", v], []⟩) (fun _ Rr st => Ht st.heap ∧
      Rr (.ok (.ret (.ref (st.heap.push io).objs.size))) { st with heap := (st.heap.push io).push { cls := .type "enumerate", data := .fields #[.none, .bool false, .ref st.heap.objs.size, rawInt 0, .none, .none] } }) :=
  .of_wp fun pg wd Ar Rr st hyp => by
    obtain ⟨hh, gg, dd, tt, oo⟩ := st
    obtain ⟨ht, hyp⟩ := hyp
    have hsb := sub_enumerate
    have qi : ∀ {A2 : Around} {E2 : Value → Shared → Prop} {Q2 : Value → Shared → Prop}, Q2 (.ref hh.objs.size) ⟨hh.push io, gg, dd, tt, oo⟩ → wpAny (model pg wd) A2 (pyIter v) Q2 E2 ⟨hh, gg, dd, tt, oo⟩ :=
      fun z => Bg.iter pg wd _ _ ⟨hh, gg, dd, tt, oo⟩ _ ht z
    wp_walk using qi
    refine wpAny_stack_any fun _ => wpAny_pure ?_
    split
    · rename_i cc _ _ _ _ _
      cases (cc == Value.type "enumerate")
      · wp_walk using qi
        exact ⟨_, rfl, hyp⟩
      · wp_walk using qi
        exact ⟨_, rfl, hyp⟩
    · wp_walk using qi
      exact ⟨_, rfl, hyp⟩
theorem unCallEnum {prog : Program} {w : World} {A : Around} {E : Value → Shared → Prop} {s : Shared} {v : Value} {io : Obj} {Ht : Heap → Prop} {Q : Value → Shared → Prop} (Bg : Begins v io Ht) (ht : Ht s.heap)
    (q : ∀ hp, IsEnum hp (s.heap.objs.size + 1) s.heap.objs.size 0 .none → hp.get? s.heap.objs.size = some io → hp.objs.size = s.heap.objs.size + 2 →
      (∀ c u, s.heap.get? c = some u → hp.get? c = some u) → Q (.ref (s.heap.objs.size + 1)) { s with heap := hp }) :
    wpAny (model prog w) A (call (.type "enumerate") [v]) Q E s := by
  refine callType_new F.called_enumerate (by decide) (F.typeCall_enumerate_1 _) (F.newCall_enumerate_1 _) (fun ob => F.args_object_init_2 ob _) F.entry_enumerate_new (unMeetsEnum Bg) ⟨ht, ?_⟩
  have sz : (s.heap.push io).objs.size = s.heap.objs.size + 1 := Heap.size_push ..
  show _ ∧ _
  rw [sz]
  have en : IsEnum ((s.heap.push io).push { cls := .type "enumerate", data := .fields #[.none, .bool false, .ref s.heap.objs.size, rawInt 0, .none, .none] }) (s.heap.objs.size + 1) s.heap.objs.size 0 .none := by
    have z := Heap.get?_push_size (s.heap.push io) (o := { cls := .type "enumerate", data := .fields #[.none, .bool false, .ref s.heap.objs.size, rawInt 0, .none, .none] }) rfl
    rw [sz] at z
    exact z
  exact ⟨⟨_, en, rfl⟩, q _ en (Heap.get?_push_of_some _ (Heap.get?_push_size _ Bg.free)) (by rw [Heap.size_push, sz]) fun c u z => Heap.get?_push_of_some _ (Heap.get?_push_of_some _ z)⟩
end PySem
namespace Un
open PySem PySem.Spec PyProof.Rows L2

/-- the tuple at a, each item in a new pair -/
def IteT (K : PySem.W.Frag) (a : Addr) : It :=
  ⟨fun i H => ∃ (xs : List V) (x : V), SqT K H a xs ∧ xs[i]? = some x,
    fun i H v H' => ∃ T x, v = .ref T ∧ H T = none ∧ H' = upd H T (.tup [.int (i : Nat), x]) ∧ ∀ xs, SqT K H a xs → xs[i]? = some x,
    fun i H => ∃ xs : List V, SqT K H a xs ∧ xs.length ≤ i⟩
theorem turn_enumT {P : Program} {w : World} {K : PySem.W.Frag} {elts : List Expr} {kk : Nat} {tpos : Pos} (a en it : Addr) :
    Turn P w K (.Tuple elts kk tpos) (IteT K a) [en, it] en (fun i h => (∃ old, IsEnum h en it ((i : Nat) : Int) old) ∧ h.IsTupleIter it a i ∧ en ≠ it ∧ a ≠ it ∧ a ≠ en) where
  mem := by simp
  obj := fun i h st b hb => by
    obtain ⟨⟨old, he⟩, ⟨o, ho, hc, hd⟩, _⟩ := st
    have e' : b = en ∨ b = it := by simpa using hb
    rcases e' with rfl | rfl
    · exact ⟨_, he, fun v q => nomatch q⟩
    · exact ⟨o, ho, fun v q => by rw [hd] at q; cases q⟩
  keep := fun i h h' st kp => by
    obtain ⟨⟨old, he⟩, hi, hne⟩ := st
    exact ⟨⟨old, kp en (by simp) _ he⟩, hi.at fun o q => kp it (by simp) o q, hne⟩
  item := by
    intro X hP hw hK hcm i pins s σ H E I hf st hg
    subst hP hw hK
    obtain ⟨⟨old, he⟩, hit, hne, hai, hae⟩ := st
    obtain ⟨xs, x, hq, hx⟩ := hg
    obtain ⟨its, rv, p, hz⟩ := I.tuple hq
    obtain ⟨u, hu, ru⟩ := rv.get hx
    have hin : i < its.toArray.size := by
      have := (List.getElem?_eq_some_iff.mp hu).1
      simpa using this
    have hel : en < s.heap.objs.size := Heap.lt_size he
    have hil : it < s.heap.objs.size := by
      obtain ⟨_, q, _⟩ := hit
      exact Heap.lt_size q
    have D := Draws.tuple (prog := X.prog) (w := X.w) (A := X.A.in1) (by rw [← I.ok.hd hcm] <;> rfl) it a hai its.toArray
    refine wpAny_pyNext_enum_itemD D he ⟨hit, p⟩ hin hne (by simp [hne, Ne.symm hae]) fun y h' tk hy ho st' hT hsz hk => ?_
    have eu : y = u := by
      have : its.toArray[i]? = some y := hy
      rw [List.getElem?_toArray] at this
      rw [hu] at this
      exact (Option.some.inj this).symm
    subst eu
    refine ⟨_, rfl, wpAny_letOwnedTupleGo_enum (s := { s with heap := h', toks := tk + 1 }) ho fun h'' he' sb => ?_⟩
    have hT2 : h''.get? s.heap.objs.size = some { cls := .type "tuple", data := .seq #[.int i tk, y] } := (sb.2 _ (Nat.ne_of_gt hel)).trans hT
    have fresh : ObjOk X.prog X.w (upd H s.heap.objs.size (.tup [.int (i : Nat), x])) h'' s.heap.objs.size (.tup [.int (i : Nat), x]) :=
      ⟨by show 2 ≤ sizeLine; decide, [.int i tk, y], .cons ⟨_, rfl⟩ (.cons ru .nil), ⟨_, hT2, rfl, _, rfl⟩⟩
    have I1 : Inv X pins σ (upd H s.heap.objs.size (.tup [.int (i : Nat), x])) { s with heap := h'', toks := tk + 1 } :=
      I.turnedNew (ch := [en, it]) (fun b ob hb q => (sb.2 b (fun z => hb (by simp [z]))).trans (hk b ob (fun z => hb (by simp [z])) (fun z => hb (by simp [z])) q)) hf (Nat.le_refl _) fresh
    refine ⟨.ref s.heap.objs.size, _, I1, rfl, ⟨_, x, rfl, I.hok.fresh (Nat.le_refl _), rfl, fun ys hy2 => by rw [I.tuple_inj hy2 hq]; exact hx⟩, ⟨⟨y, ?_⟩, st'.1.at fun o q => (sb.2 it (Ne.symm hne)).trans q, hne, hai, hae⟩, fun b hb => ?_⟩
    · have e1 : ((i + 1 : Nat) : Int) = (i : Int) + 1 := by omega
      rw [e1]
      exact he'
    · have e' : b = en ∨ b = it := by simpa using hb
      have hlt : b < s.heap.objs.size := by
        rcases e' with rfl | rfl
        · exact hel
        · exact hil
      rw [upd_ne (Nat.ne_of_lt hlt)]
      exact (hf b hb).1
  done := by
    intro X hP hw hK hcm i pins s σ H E I hf st hg
    subst hP hw hK
    obtain ⟨⟨old, he⟩, hit, hne, hai, hae⟩ := st
    obtain ⟨xs, hq, hx⟩ := hg
    obtain ⟨its, rv, p, hz⟩ := I.tuple hq
    obtain ⟨f0, f1, f2, f3, f4, f5⟩ := hf it (by simp)
    have hh : X.A.in1.handled = none := by rw [← I.ok.hd hcm] <;> rfl
    have hend : its.toArray[i]? = none := by
      have l1 := rv.length
      simp
      omega
    have D : Draws X.prog X.w X.A.in1 it [it, a] i (fun _ _ => True) (fun j h => i ≤ j ∧ h.IsTupleIter it a j ∧ h.IsTuple a its.toArray) :=
      { live := fun _ _ st => by
          obtain ⟨_, ⟨o, ho, _⟩, _⟩ := st
          exact ⟨o, ho⟩
        frame := fun _ _ _ st hk => ⟨st.1, st.2.1.at fun o e => hk it (by simp) o e, st.2.2.at fun o e => hk a (by simp) o e⟩
        item := fun j s Q E hj st _ => absurd hj (Nat.not_lt.mpr st.1)
        done := fun s Q E st hE => wpAny_nextOf_tuple_end hh st.2.1 st.2.2 hend hE }
    exact wpAny_pyNext_enum_endD D he ⟨Nat.le_refl _, hit, p⟩ fun h' eb => ⟨rfl, I.turned (t' := s.toks) (fun b o hb q => eb b o hb q) f0 f1 f3 f4 f5⟩
  self := fun A i s Q E st h => by
    obtain ⟨⟨_, he⟩, _⟩ := st
    exact wpAny_pyIter_enum he h
/-- the list or tuple at a -/
def iEnumA (K : PySem.W.Frag) (te : TE) : TI := fun σ H R => te σ H fun v H1 => ∃ a xs, v = .ref a ∧ ((SqL K H1 a xs ∧ R (Ite K a) H1) ∨ (SqT K H1 a xs ∧ R (IteT K a) H1))
def iSeqA (K : PySem.W.Frag) (te : TE) : TI := fun σ H R => te σ H fun v H1 => ∃ a xs, v = .ref a ∧ ((SqL K H1 a xs ∧ R (Itl K a) H1) ∨ (SqT K H1 a xs ∧ R (Itt K a) H1))
section
variable {X : Cx} {tg e : Expr} {te : TE} {p pos tpos : Pos} {elts : List Expr} {kk : Nat}
theorem pi_enumA (hg : Gl X "enumerate") (hm : X.mg "enumerate" = none) (he : PE X e te) (hs : starEach [e] X.env = (false, eval e X.env) :: starEach [] X.env) :
    PI X (.Tuple elts kk tpos) (.Call (.Name "enumerate" p) [e] [] pos) (iEnumA X.K te) := by
  refine ⟨fun pins s σ H R I h => ?_⟩
  refine Call_ (ld_blt I hg hm boot_enumerate (PyProof.Rows.callWith_type1 (args_cons (thn (he.run pins s σ H _ I h) fun u s1 ⟨v, H1, I1, r1, q1⟩ => args_nil ?_) hs) hs rfl))
  obtain ⟨a, xs, ev, q⟩ := q1
  subst ev
  obtain rfl : u = Value.ref a := r1
  have fp : ∀ b, b ∈ [s1.heap.objs.size + 1, s1.heap.objs.size] → FpOk X pins H1 b := fun b hb => by
    have e' : b = s1.heap.objs.size + 1 ∨ b = s1.heap.objs.size := by simpa using hb
    have hle : s1.heap.objs.size ≤ b := by
      rcases e' with z | z
      · rw [z]; exact Nat.le_add_right _ _
      · rw [z]; exact Nat.le_refl _
    exact I1.fpOk hle (I1.hok.fresh hle)
  rcases q with ⟨hq, q⟩ | ⟨hq, q⟩
  · obtain ⟨its, rv, p', hz⟩ := I1.list hq
    refine unCallEnum (begins_list a its.toArray) p'.isList fun h' hen hit hsz hk => wpAny_pyIter_enum hen ?_
    have I2 : Inv X pins σ H1 { s1 with heap := h' } := I1.kept (t' := s1.toks) hk
    exact ⟨s1.heap.objs.size + 1, [s1.heap.objs.size + 1, s1.heap.objs.size], _, _, H1, rfl, I2, turn_enum a (s1.heap.objs.size + 1) s1.heap.objs.size, ⟨⟨.none, hen⟩, ⟨_, hit, rfl, rfl⟩, Nat.succ_ne_self _⟩, fp, q⟩
  · obtain ⟨its, rv, p', hz⟩ := I1.tuple hq
    have hal : a < s1.heap.objs.size := p'.lt
    refine unCallEnum (begins_tuple a its.toArray) p' fun h' hen hit hsz hk => wpAny_pyIter_enum hen ?_
    have I2 : Inv X pins σ H1 { s1 with heap := h' } := I1.kept (t' := s1.toks) hk
    exact ⟨s1.heap.objs.size + 1, [s1.heap.objs.size + 1, s1.heap.objs.size], _, _, H1, rfl, I2, turn_enumT a (s1.heap.objs.size + 1) s1.heap.objs.size, ⟨⟨.none, hen⟩, ⟨_, hit, rfl, rfl⟩, Nat.succ_ne_self _, Nat.ne_of_lt hal, Nat.ne_of_lt (Nat.lt_succ_of_lt hal)⟩, fp, q⟩
theorem pi_seqA (he : PE X e te) : PI X tg e (iSeqA X.K te) := by
  refine ⟨fun pins s σ H R I h => ?_⟩
  refine thn (he.run pins s σ H _ I h) fun u s1 ⟨v, H1, I1, r1, q1⟩ => ?_
  obtain ⟨a, xs, ev, q⟩ := q1
  subst ev
  cases r1
  have fp : ∀ b, b ∈ [s1.heap.objs.size] → FpOk X pins H1 b := fun b hb => by
    obtain rfl : b = s1.heap.objs.size := by simpa using hb
    exact I1.fpOk (Nat.le_refl _) (I1.hok.fresh (Nat.le_refl _))
  rcases q with ⟨hq, q⟩ | ⟨hq, q⟩
  · obtain ⟨its, rv, p', hz⟩ := I1.list hq
    refine wpAny_pyIter_list p'.isList ?_
    exact ⟨_, [s1.heap.objs.size], _, _, H1, rfl, I1.kept (t' := s1.toks) fun b o z => Heap.get?_push_of_some _ z, turn_list a _, ⟨_, Heap.get?_push_size _ rfl, rfl, rfl⟩, fp, q⟩
  · obtain ⟨its, rv, p', hz⟩ := I1.tuple hq
    refine wpAny_pyIter_tuple (show s1.heap.IsTuple a its.toArray from p') ?_
    exact ⟨_, [s1.heap.objs.size], _, _, H1, rfl, I1.kept (t' := s1.toks) fun b o z => Heap.get?_push_of_some _ z, turn_tuple a _, ⟨_, Heap.get?_push_size _ rfl, rfl, rfl⟩, fp, q⟩
end
end Un
end
section
/-! Un: t[::-1] of a tuple. -/
namespace Un
open PySem PySem.Spec PyProof.Rows L2 HT
section
variable {prog : Program} {w : World} {A : Around} {E : Value → Shared → Prop} {s : Shared}
theorem back_adj (n : Nat) : Builtin.Slice.sliceAdjust none none (-1) (n : Int) = ((n : Int) - 1, -1) := by
  unfold Builtin.Slice.sliceAdjust
  simp <;> omega
theorem back_pl (n : Nat) : Builtin.Slice.slicePlaces ((n : Int) - 1) (-1) (-1) = n := by
  unfold Builtin.Slice.slicePlaces
  simp <;> omega
theorem back_pick (its : Array Value) : ((List.range its.size).filterMap fun (m : Nat) => its[(((its.size : Nat) : Int) - 1 + (m : Int) * (-1)).toNat]?).toArray = its.toList.reverse.toArray := by
  congr 1
  apply List.ext_getElem?
  intro j
  have e : (fun (m : Nat) => its[(((its.size : Nat) : Int) - 1 + (m : Int) * (-1)).toNat]?) = fun m => its[its.size - 1 - m]? := by
    funext m
    have : (((its.size : Nat) : Int) - 1 + (m : Int) * (-1)).toNat = its.size - 1 - m := by omega
    rw [this]
  rw [e]
  have e1 : ∀ l : List Nat, (∀ m ∈ l, m < its.size) → l.filterMap (fun m => its[its.size - 1 - m]?) = l.map fun m => its[its.size - 1 - m]! := fun l => by
    induction l with
    | nil => intro _; rfl
    | cons m l ih =>
      intro hl
      have hm := hl m (by simp)
      have h2 : its.size - 1 - m < its.size := by omega
      rw [List.filterMap_cons, List.map_cons, ih fun x hx => hl x (by simp [hx])]
      simp [h2]
  have e2 : ∀ k, k ≤ its.size → (List.range k).filterMap (fun m => its[its.size - 1 - m]?) = (List.range k).map fun m => its[its.size - 1 - m]! := fun k hk =>
    e1 _ fun m hm => Nat.lt_of_lt_of_le (List.mem_range.mp hm) hk
  rw [e2 _ (Nat.le_refl _)]
  by_cases hj : j < its.size
  · have h2 : its.size - 1 - j < its.size := by omega
    rw [List.getElem?_map, List.getElem?_range hj, List.getElem?_reverse (by simpa using hj)]
    simp [h2]
  · rw [List.getElem?_eq_none (by simpa using hj), List.getElem?_eq_none (by simpa using hj)]
theorem slice_back {sl : Addr} {vk : Value} {n : Nat} {Q : Int × Int × Nat → Shared → Prop} (hs : s.heap.IsSliceOf sl .none .none vk) (pk : IsPart vk (some (-1)))
    (q : Q ((n : Int) - 1, -1, n) s) : wpAny (model prog w) A (Builtin.Slice.sliceApplied (.ref sl) (pure (n : Int))) Q E s := by
  obtain ⟨os, hos, hcs, hds⟩ := id hs
  unfold Builtin.Slice.sliceApplied Builtin.Slice.sliceFields
  refine wpAny_bind (wpAny_bind (wpAny_field hos hds (x := .none) rfl (wpAny_bind (wpAny_field hos hds (x := .none) rfl (wpAny_bind (wpAny_field hos hds (x := vk) rfl (wpAny_pure ?_)))))))
  refine wpAny_bind (slicePart_ pk ?_)
  show wpAny _ _ (if ((-1 : Int) == 0) = true then _ else _) _ _ s
  rw [if_neg (by decide)]
  refine wpAny_bind (slicePart_none (wpAny_bind (slicePart_none (wpAny_bind (wpAny_pure ?_)))))
  show wpAny _ _ (match Builtin.Slice.sliceAdjust none none (-1) (n : Int) with | (lo, hi) => pure (lo, (-1 : Int), Builtin.Slice.slicePlaces lo hi (-1))) _ _ s
  rw [back_adj]
  show wpAny _ _ (pure ((n : Int) - 1, (-1 : Int), Builtin.Slice.slicePlaces ((n : Int) - 1) (-1) (-1))) _ _ s
  rw [back_pl]
  exact wpAny_pure q
theorem getItem_tuple_back {t sl : Addr} {items : Array Value} {vk : Value} {Q : Value → Shared → Prop} (ht : IsTup s.heap t items) (hs : s.heap.IsSliceOf sl .none .none vk) (pk : IsPart vk (some (-1)))
    (h : Q (.ref s.heap.objs.size) { s with heap := s.heap.push { cls := .type "tuple", data := .seq items.toList.reverse.toArray } }) (hsz : items.size ≤ sizeLine) : wpAny (model prog w) A (getItem (.ref t) (.ref sl)) Q E s := by
  have hfit : sizeOk (.seq items.toList.reverse.toArray) := by
    show items.toList.reverse.toArray.size ≤ sizeLine
    simpa using hsz
  obtain ⟨os, hos, hcs, hds⟩ := id hs
  have hT2 : s.TypeIs (.ref sl) "slice" := ⟨os, hos, hcs⟩
  unfold getItem
  try with_reducible refine wpAny_holding ?_
  first | refine wpAny_bind (wpAny_pure ?_) | skip
  refine wpAny_bind (wpAny_sequenceKey ht.typeIs (by decide) ?_)
  refine wpAny_bind (wpAny_callSpecial?_slot (name := Str.ofString "__getitem__") ht.typeIs PyProof.Rows.slot_tuple_getitem (wpAny_call_entry PyProof.Rows.slot_tuple_getitem ht.typeIs entry_tuple_getitem ?_ (args_tuple_getitem _ _)))
  show wpAny _ _ (Builtin.Tuple.tupleItemsOf (.ref t) >>= _) _ _ s
  refine wpAny_bind (tupleItemsOf_ ht (wpAny_bind (wpAny_typeOf hT2 ?_)))
  rw [if_pos (by decide)]
  refine wpAny_bind (slice_back hs pk ?_)
  have hno : ¬ ((((items.size : Nat) : Int) - 1 == 0 && (-1 : Int) == 1 && items.size == items.size) = true) := by
    rw [show ((-1 : Int) == 1) = false by decide]
    simp
  show wpAny _ _ (if (((items.size : Nat) : Int) - 1 == 0 && (-1 : Int) == 1 && items.size == items.size) = true then _ else _) _ _ s
  rw [if_neg hno, back_pick]
  first
    | exact wpAny_bind (m := Builtin.Tuple.tupleExact _) (wpAny_newObj_type (wpAny_pure ⟨_, rfl, wpAny_pure h⟩) hfit)
    | exact wpAny_bind (m := Builtin.Tuple.tupleExact _) (wpAny_newObj_type (wpAny_bind (wpAny_pure (wpAny_pure ⟨_, rfl, wpAny_pure h⟩))) hfit)
    | exact wpAny_bind (wpAny_bind (m := Builtin.Tuple.tupleExact _) (wpAny_newObj_type (wpAny_pure (wpAny_pure ⟨_, rfl, wpAny_pure h⟩)) hfit))
    | exact wpAny_bind (wpAny_bind (m := Builtin.Tuple.tupleExact _) (wpAny_newObj_type (wpAny_pure ⟨_, rfl, wpAny_pure h⟩) hfit))
end
section
variable {X : Cx}
/-- x[::-1], x a list or a tuple -/
def tRevA (K : PySem.W.Frag) (te : TE) : TE := fun σ H Q => te σ H fun x H1 => ∃ a xs, x = .ref a ∧ ((SqL K H1 a xs ∧ ∀ p, H1 p = none → Q (.ref p) (upd H1 p (.lst xs.reverse))) ∨ (SqT K H1 a xs ∧ ∀ p, H1 p = none → Q (.ref p) (upd H1 p (.tup xs.reverse))))
theorem pe_revA {e : Expr} {te : TE} {k : Nat} {p1 p2 p3 pos : Pos} (he : PE X e te) : PE X (.Subscript e (.Slice none none (some (.UnaryOp .USub (.Constant (.int 1) k p1) p2)) p3) pos) (tRevA X.K te) := by
  refine ⟨fun pins s σ H Q I h => ?_⟩
  refine Subscript_ (thn (he.run pins s σ H _ I h) fun v s1 ⟨x, H1, I1, r1, q1⟩ => ?_)
  obtain ⟨a, xs, ex, q⟩ := q1
  subst ex
  cases r1
  have step : PO X (some (.UnaryOp .USub (.Constant (.int 1) k p1) p2)) (tPart (tUn (rU fun i => .int (-i)) (tC (.int 1)))) := po_some (pe_un un_neg pe_int)
  refine wpAny_Slice (thn (po_none.run pins s1 σ H1 (fun o Hx => o = none ∧ Hx = H1) I1 ⟨rfl, rfl⟩) fun vl s2 ⟨l, H2, I2, pl, el, e2⟩ => ?_)
  subst el e2
  cases pl
  refine thn (po_none.run pins s2 σ H2 (fun o Hx => o = none ∧ Hx = H2) I2 ⟨rfl, rfl⟩) fun vu s3 ⟨u, H3, I3, pu, eu, e3⟩ => ?_
  subst eu e3
  cases pu
  refine thn (step.run pins s3 σ H3 (fun o Hx => o = some (-1) ∧ Hx = H3) I3 ⟨1, rfl, -1, rfl, rfl, rfl⟩) fun vk s4 ⟨o, H4, I4, pk, eo, e4⟩ => ?_
  subst eo e4
  have I5 : Inv X pins σ H4 { s4 with heap := s4.heap.push { cls := .type "slice", data := .fields #[.none, .none, vk] } } := I4.kept (t' := s4.toks) fun b ob z => Heap.get?_push_of_some _ z
  show wpAny (model X.prog X.w) X.A (subscriptTail e (.Slice none none (some (.UnaryOp .USub (.Constant (.int 1) k p1) p2)) p3) (.ref a) (.ref s4.heap.objs.size)) (EP X pins σ Q) X.xe { s4 with heap := s4.heap.push { cls := .type "slice", data := .fields #[.none, .none, vk] } }
  rcases q with ⟨hx, q⟩ | ⟨hx, q⟩
  · obtain ⟨its, r, ht, hz⟩ := I5.list hx
    have hlen := r.length
    refine tail_any (ops := [.ref a, .ref s4.heap.objs.size]) ht.isList.typeIs (PySem.slot_list_getitem.lookup) ?_ (by with_unfolding_all rfl)
    refine wpAny_getItem_list_slice ht.isList (Heap.IsSliceOf.new _ .none .none vk) .none .none pk (by decide) ?_ (by rw [List.size_toArray]; omega)
    rw [PySem.W.krv_pick]
    refine ⟨.ref _, _, I5.laid (t' := s4.toks) (o := .lst xs.reverse) (fun b ob z => Heap.get?_push_of_some _ z) (Nat.le_refl _) ?_, rfl, q _ (I5.hok.fresh (Nat.le_refl _))⟩
    exact ⟨by rw [List.length_reverse]; exact hz, _, 0, r.reverse, Heap.get?_push_size _ rfl⟩
  · obtain ⟨its, r, ht, hz⟩ := I5.tuple hx
    have hlen := r.length
    refine tail_any (ops := [.ref a, .ref s4.heap.objs.size]) ht.typeIs (PyProof.Rows.slot_tuple_getitem.lookup) ?_ (by with_unfolding_all rfl)
    refine getItem_tuple_back ht (Heap.IsSliceOf.new _ .none .none vk) pk ?_ (by rw [List.size_toArray]; omega)
    refine ⟨.ref _, _, I5.laid (t' := s4.toks) (o := .tup xs.reverse) (fun b ob z => Heap.get?_push_of_some _ z) (Nat.le_refl _) ?_, rfl, q _ (I5.hok.fresh (Nat.le_refl _))⟩
    exact ⟨by rw [List.length_reverse]; exact hz, _, r.reverse, IsTup.new _ _⟩
end
end Un
end
section
/-! Un: what is walked. -/
namespace Un
open PySem PySem.Spec L2
section
variable {l : Lay} {x : KX} {K : PySem.W.Frag} {L : Loc} {B Hs His Hi H Hi' H' : Hp} {σ : L2.St} {ρ : List SV}
/-- a walked worth, fixed -/
theorem AvOk.seq {v : V} {a : AV} {k : List PyData → Prop} (h : AvOk K L B Hs Hi H v a) (g : Grow L His Hs Hi H) (hw : seqW a k) : ∃ Hi2 p vs xs, Grow L His Hs Hi2 H ∧ Same Hi Hi2 ∧ v = .ref p ∧ DqAll K Hi2 vs xs ∧ k xs ∧
    (Hi2 p = some (.lst vs) ∨ SqT K Hi2 p vs) := by
  obtain ⟨d, e, hw⟩ := hw
  obtain ⟨Hi2, g2, s2, d2, _⟩ := h.fix g e
  cases d with
  | list xs =>
    cases d2 with
    | lst h1 h2 => exact ⟨Hi2, _, _, xs, g2, s2, rfl, h2, hw, .inl h1⟩
  | tuple xs =>
    cases d2 with
    | tup h1 h2 => exact ⟨Hi2, _, _, xs, g2, s2, rfl, h2, hw, .inr h1⟩
  | _ => exact hw.elim
theorem it_list {p : Addr} {vs : List V} {xs : List PyData} {Hi1 H1 : Hp} (h : Hi1 p = some (.lst vs)) (d : DqAll K Hi1 vs xs) : ItOk K L Hi1 H1 (Itl K p) xs where
  go := fun i Hi H s1 s2 _ _ hi => by
    have hl := d.len
    exact ⟨vs, vs[i], SqL.of (s2 _ _ (s1 _ _ h)), by simp⟩
  stop := fun i Hi H s1 s2 _ _ hi => ⟨vs, SqL.of (s2 _ _ (s1 _ _ h)), by rw [d.len]; omega⟩
  yld := fun i Hi H y v H' s1 s2 _ ok hy hv => by
    obtain ⟨rfl, hv⟩ := hv
    obtain ⟨u, hu, du⟩ := d.get hy
    have e := hv vs (SqL.of (s2 _ _ (s1 _ _ h)))
    rw [hu] at e
    cases e
    exact ⟨Hi, Grow.refl s2, ok, Dq.mono s1 _ _ du⟩
theorem it_tup {p : Addr} {vs : List V} {xs : List PyData} {Hi1 H1 : Hp} (h : SqT K Hi1 p vs) (d : DqAll K Hi1 vs xs) : ItOk K L Hi1 H1 (Itt K p) xs where
  go := fun i Hi H s1 s2 _ _ hi => by
    have hl := d.len
    exact ⟨vs, vs[i], sqT_mono s2 (sqT_mono s1 h), by simp⟩
  stop := fun i Hi H s1 s2 _ _ hi => ⟨vs, sqT_mono s2 (sqT_mono s1 h), by rw [d.len]; omega⟩
  yld := fun i Hi H y v H' s1 s2 _ ok hy hv => by
    obtain ⟨rfl, hv⟩ := hv
    obtain ⟨u, hu, du⟩ := d.get hy
    have e := hv vs (sqT_mono s2 (sqT_mono s1 h))
    rw [hu] at e
    cases e
    exact ⟨Hi, Grow.refl s2, ok, Dq.mono s1 _ _ du⟩
theorem enuL_get : ∀ (xs : List PyData) (n i : Nat), (enuL n xs)[i]? = (xs[i]?).map fun x => .tuple [.int ((n + i : Nat) : Int), x]
  | [], n, i => by simp [enuL]
  | x :: xs, n, 0 => by simp [enuL]
  | x :: xs, n, i + 1 => by
    rw [enuL, List.getElem?_cons_succ, List.getElem?_cons_succ, enuL_get xs (n + 1) i]
    rw [show n + 1 + i = n + (i + 1) by omega]
theorem enuL_len : ∀ (xs : List PyData) (n : Nat), (enuL n xs).length = xs.length
  | [], n => rfl
  | x :: xs, n => by rw [enuL, List.length_cons, List.length_cons, enuL_len xs]
/-- a new pair -/
theorem pair_ok {H Hi : Hp} {T : Addr} {u v : V} {x y : PyData} (s : Same Hi H) (ok : L.ok H) (hT : H T = none) (dx : Dq K Hi u x) (dy : Dq K Hi v y) :
    ∃ Hi', Grow L Hi H Hi' (upd H T (.tup [u, v])) ∧ L.ok (upd H T (.tup [u, v])) ∧ Dq K Hi' (.ref T) (.tuple [x, y]) :=
  ⟨upd Hi T (.tup [u, v]), Grow.laid s hT, L.okNew ok hT, .tup (SqT.of upd_same) (DqAll.upd (s.free hT) (.cons dx (.cons dy .nil)))⟩
theorem it_enumL {p : Addr} {vs : List V} {xs : List PyData} {Hi1 H1 : Hp} (h : Hi1 p = some (.lst vs)) (d : DqAll K Hi1 vs xs) : ItOk K L Hi1 H1 (Ite K p) (enuL 0 xs) where
  go := fun i Hi H s1 s2 _ _ hi => by
    have hl := d.len
    rw [enuL_len] at hi
    exact ⟨vs, vs[i], SqL.of (s2 _ _ (s1 _ _ h)), by simp⟩
  stop := fun i Hi H s1 s2 _ _ hi => ⟨vs, SqL.of (s2 _ _ (s1 _ _ h)), by rw [enuL_len] at hi; rw [d.len]; omega⟩
  yld := fun i Hi H y v H' s1 s2 _ ok hy hv => by
    obtain ⟨T, u, rfl, hT, rfl, hv⟩ := hv
    rw [enuL_get] at hy
    cases q : xs[i]? with
    | none => rw [q] at hy; cases hy
    | some z =>
      rw [q] at hy
      cases hy
      obtain ⟨u', hu, du⟩ := d.get q
      have e := hv vs (SqL.of (s2 _ _ (s1 _ _ h)))
      rw [hu] at e
      cases e
      rw [Nat.zero_add]
      exact pair_ok s2 ok hT (.int _) (Dq.mono s1 _ _ du)
theorem it_enumT {p : Addr} {vs : List V} {xs : List PyData} {Hi1 H1 : Hp} (h : SqT K Hi1 p vs) (d : DqAll K Hi1 vs xs) : ItOk K L Hi1 H1 (IteT K p) (enuL 0 xs) where
  go := fun i Hi H s1 s2 _ _ hi => by
    have hl := d.len
    rw [enuL_len] at hi
    exact ⟨vs, vs[i], sqT_mono s2 (sqT_mono s1 h), by simp⟩
  stop := fun i Hi H s1 s2 _ _ hi => ⟨vs, sqT_mono s2 (sqT_mono s1 h), by rw [enuL_len] at hi; rw [d.len]; omega⟩
  yld := fun i Hi H y v H' s1 s2 _ ok hy hv => by
    obtain ⟨T, u, rfl, hT, rfl, hv⟩ := hv
    rw [enuL_get] at hy
    cases q : xs[i]? with
    | none => rw [q] at hy; cases hy
    | some z =>
      rw [q] at hy
      cases hy
      obtain ⟨u', hu, du⟩ := d.get q
      have e := hv vs (sqT_mono s2 (sqT_mono s1 h))
      rw [hu] at e
      cases e
      rw [Nat.zero_add]
      exact pair_ok s2 ok hT (.int _) (Dq.mono s1 _ _ du)
theorem zipL_get : ∀ (xs ys : List PyData) (i : Nat) (z : PyData), (zipL xs ys)[i]? = some z → ∃ x y, xs[i]? = some x ∧ ys[i]? = some y ∧ z = .tuple [x, y]
  | [], ys, i, z, h => by simp [zipL] at h
  | x :: xs, [], i, z, h => by simp [zipL] at h
  | x :: xs, y :: ys, 0, z, h => by
    simp [zipL] at h
    exact ⟨x, y, rfl, rfl, h.symm⟩
  | x :: xs, y :: ys, i + 1, z, h => by
    rw [zipL, List.getElem?_cons_succ] at h
    obtain ⟨a, b, h1, h2, h3⟩ := zipL_get xs ys i z h
    exact ⟨a, b, by simpa using h1, by simpa using h2, h3⟩
theorem zipL_len : ∀ (xs ys : List PyData), (zipL xs ys).length = min xs.length ys.length
  | [], ys => by simp [zipL]
  | x :: xs, [] => by simp [zipL]
  | x :: xs, y :: ys => by rw [zipL, List.length_cons, zipL_len xs ys, List.length_cons, List.length_cons]; omega
theorem it_zipL {p q : Addr} {vs ws : List V} {xs ys : List PyData} {Hi1 H1 : Hp} (h : Hi1 p = some (.lst vs)) (d : DqAll K Hi1 vs xs) (h' : Hi1 q = some (.lst ws)) (d' : DqAll K Hi1 ws ys) : ItOk K L Hi1 H1 (Itz K p q) (zipL xs ys) where
  go := fun i Hi H s1 s2 _ _ hi => by
    have hl := d.len
    have hl' := d'.len
    rw [zipL_len] at hi
    have i1 : i < vs.length := by omega
    have i2 : i < ws.length := by omega
    exact ⟨vs, ws, vs[i], ws[i], SqL.of (s2 _ _ (s1 _ _ h)), SqL.of (s2 _ _ (s1 _ _ h')), by simp, by simp⟩
  stop := fun i Hi H s1 s2 _ _ hi => by
    have hl := d.len
    have hl' := d'.len
    rw [zipL_len] at hi
    exact ⟨vs, ws, SqL.of (s2 _ _ (s1 _ _ h)), SqL.of (s2 _ _ (s1 _ _ h')), by omega⟩
  yld := fun i Hi H y v H' s1 s2 _ ok hy hv => by
    obtain ⟨T, u, w, rfl, hT, rfl, hv, hw⟩ := hv
    obtain ⟨a, b, ha, hb, rfl⟩ := zipL_get _ _ _ _ hy
    obtain ⟨u', hu, du⟩ := d.get ha
    obtain ⟨w', hw', dw⟩ := d'.get hb
    have e := hv vs (SqL.of (s2 _ _ (s1 _ _ h)))
    have e' := hw ws (SqL.of (s2 _ _ (s1 _ _ h')))
    rw [hu] at e
    rw [hw'] at e'
    cases e
    cases e'
    exact pair_ok s2 ok hT (Dq.mono s1 _ _ du) (Dq.mono s1 _ _ dw)
theorem it_zipT {p q : Addr} {vs ws : List V} {xs ys : List PyData} {Hi1 H1 : Hp} (h : SqT K Hi1 p vs) (d : DqAll K Hi1 vs xs) (h' : SqT K Hi1 q ws) (d' : DqAll K Hi1 ws ys) : ItOk K L Hi1 H1 (RZ.ItzT K p q) (zipL xs ys) where
  go := fun i Hi H s1 s2 _ _ hi => by
    have hl := d.len
    have hl' := d'.len
    rw [zipL_len] at hi
    have i1 : i < vs.length := by omega
    have i2 : i < ws.length := by omega
    exact ⟨vs, ws, vs[i], ws[i], sqT_mono s2 (sqT_mono s1 h), sqT_mono s2 (sqT_mono s1 h'), by simp, by simp⟩
  stop := fun i Hi H s1 s2 _ _ hi => by
    have hl := d.len
    have hl' := d'.len
    rw [zipL_len] at hi
    exact ⟨vs, ws, sqT_mono s2 (sqT_mono s1 h), sqT_mono s2 (sqT_mono s1 h'), by omega⟩
  yld := fun i Hi H y v H' s1 s2 _ ok hy hv => by
    obtain ⟨T, u, w, rfl, hT, rfl, hv, hw⟩ := hv
    obtain ⟨a, b, ha, hb, rfl⟩ := zipL_get _ _ _ _ hy
    obtain ⟨u', hu, du⟩ := d.get ha
    obtain ⟨w', hw', dw⟩ := d'.get hb
    have e := hv vs (sqT_mono s2 (sqT_mono s1 h))
    have e' := hw ws (sqT_mono s2 (sqT_mono s1 h'))
    rw [hu] at e
    rw [hw'] at e'
    cases e
    cases e'
    exact pair_ok s2 ok hT (Dq.mono s1 _ _ du) (Dq.mono s1 _ _ dw)
theorem it_revL {p : Addr} {vs : List V} {xs : List PyData} {Hi1 H1 : Hp} (h : Hi1 p = some (.lst vs)) (d : DqAll K Hi1 vs xs) : ItOk K L Hi1 H1 (Itv K p vs.length) xs.reverse where
  go := fun i Hi H s1 s2 _ _ hi => by
    have hl := d.len
    rw [List.length_reverse] at hi
    have : vs.length - 1 - i < vs.length := by omega
    exact ⟨by omega, vs, vs[vs.length - 1 - i], SqL.of (s2 _ _ (s1 _ _ h)), by simp⟩
  stop := fun i Hi H s1 s2 _ _ hi => by
    rw [List.length_reverse] at hi
    show vs.length ≤ i
    rw [d.len]
    omega
  yld := fun i Hi H y v H' s1 s2 _ ok hy hv => by
    obtain ⟨rfl, hv⟩ := hv
    have hl := d.len
    have hi : i < xs.length := by
      have := (List.getElem?_eq_some_iff.mp hy).1
      simpa using this
    rw [List.getElem?_reverse hi] at hy
    obtain ⟨u, hu, du⟩ := d.get hy
    have e := hv vs (SqL.of (s2 _ _ (s1 _ _ h)))
    rw [hl, hu] at e
    cases e
    exact ⟨Hi, Grow.refl s2, ok, Dq.mono s1 _ _ du⟩
theorem it_revT {p : Addr} {vs : List V} {xs : List PyData} {Hi1 H1 : Hp} (h : SqT K Hi1 p vs) (d : DqAll K Hi1 vs xs) : ItOk K L Hi1 H1 (RT.ItvT K p vs.length) xs.reverse where
  go := fun i Hi H s1 s2 _ _ hi => by
    have hl := d.len
    rw [List.length_reverse] at hi
    have : vs.length - 1 - i < vs.length := by omega
    exact ⟨by omega, vs, vs[vs.length - 1 - i], sqT_mono s2 (sqT_mono s1 h), by simp⟩
  stop := fun i Hi H s1 s2 _ _ hi => by
    rw [List.length_reverse] at hi
    show vs.length ≤ i
    rw [d.len]
    omega
  yld := fun i Hi H y v H' s1 s2 _ ok hy hv => by
    obtain ⟨rfl, hv⟩ := hv
    have hl := d.len
    have hi : i < xs.length := by
      have := (List.getElem?_eq_some_iff.mp hy).1
      simpa using this
    rw [List.getElem?_reverse hi] at hy
    obtain ⟨u, hu, du⟩ := d.get hy
    have e := hv vs (sqT_mono s2 (sqT_mono s1 h))
    rw [hl, hu] at e
    cases e
    exact ⟨Hi, Grow.refl s2, ok, Dq.mono s1 _ _ du⟩
theorem rngL_len (lo c : Int) (n : Nat) : (rngL lo c n).length = n := by simp [rngL]
theorem rngL_get {lo c : Int} {n i : Nat} {y : PyData} (h : (rngL lo c n)[i]? = some y) : y = .int (lo + (i : Int) * c) := by
  have hi : i < n := by
    have := (List.getElem?_eq_some_iff.mp h).1
    rwa [rngL_len] at this
  unfold rngL at h
  rw [List.getElem?_map, List.getElem?_range hi] at h
  cases h
  rfl
theorem it_rng {lo : Int} {n : Nat} {Hi1 H1 : Hp} : ItOk K L Hi1 H1 (Itr lo n) (rngL lo 1 n) where
  go := fun i Hi H s1 s2 _ _ hi => by rw [rngL_len] at hi; exact hi
  stop := fun i Hi H s1 s2 _ _ hi => by rw [rngL_len] at hi; show n ≤ i; omega
  yld := fun i Hi H y v H' s1 s2 _ ok hy hv => by
    obtain ⟨rfl, rfl⟩ := hv
    rw [rngL_get hy, Int.mul_one]
    exact ⟨Hi, Grow.refl s2, ok, .int _⟩
theorem it_rngc {lo c : Int} {n : Nat} {Hi1 H1 : Hp} : ItOk K L Hi1 H1 (Itc lo c n) (rngL lo c n) where
  go := fun i Hi H s1 s2 _ _ hi => by rw [rngL_len] at hi; exact hi
  stop := fun i Hi H s1 s2 _ _ hi => by rw [rngL_len] at hi; show n ≤ i; omega
  yld := fun i Hi H y v H' s1 s2 _ ok hy hv => by
    obtain ⟨rfl, rfl⟩ := hv
    rw [rngL_get hy]
    exact ⟨Hi, Grow.refl s2, ok, .int _⟩

/-! ### the readings of what is walked -/
variable {f g h : List SV → KA → Prop} {R : It → Hp → Prop}
/-- an iterator's word: what it gives is fixed on the way -/
theorem AfterI.use {k : List PyData → Prop} {xs : List PyData} {J : It} (h : AfterI K L Hi H k R) (hk : k xs) (g : Grow L Hi H Hi' H') (ok : L.ok H') (it : ItOk K L Hi' H' J xs) : R J H' := h xs hk J Hi' H' g ok it
theorem rd_seq (hw : tI l x (fun ρ k => f ρ fun a => seqW a k) σ H R) : iSeqA l.K (tV l x f) σ H R := by
  obtain ⟨L, Hi0, B, Hi, ρ, k, s, hf, ha⟩ := hw
  refine ⟨L, Hi0, B, Hi, ρ, _, s, hf, fun p hp v Hi1 H1 g1 ok1 hv => ?_⟩
  obtain ⟨Hi2, a, vs, xs, g2, s2, rfl, d, hk, hh⟩ := hv.seq g1 hp
  rcases hh with hh | hh
  · exact ⟨a, vs, rfl, .inl ⟨SqL.of (g2.sub _ _ hh), ha.use hk g2 ok1 (it_list hh d)⟩⟩
  · exact ⟨a, vs, rfl, .inr ⟨sqT_mono g2.sub hh, ha.use hk g2 ok1 (it_tup hh d)⟩⟩
theorem rd_enu (hw : tI l x (fun ρ k => f ρ fun a => seqW a fun xs => k (enuL 0 xs)) σ H R) : iEnumA l.K (tV l x f) σ H R := by
  obtain ⟨L, Hi0, B, Hi, ρ, k, s, hf, ha⟩ := hw
  refine ⟨L, Hi0, B, Hi, ρ, _, s, hf, fun p hp v Hi1 H1 g1 ok1 hv => ?_⟩
  obtain ⟨Hi2, a, vs, xs, g2, s2, rfl, d, hk, hh⟩ := hv.seq g1 hp
  rcases hh with hh | hh
  · exact ⟨a, vs, rfl, .inl ⟨SqL.of (g2.sub _ _ hh), ha.use hk g2 ok1 (it_enumL hh d)⟩⟩
  · exact ⟨a, vs, rfl, .inr ⟨sqT_mono g2.sub hh, ha.use hk g2 ok1 (it_enumT hh d)⟩⟩
theorem rd_rvd (hw : tI l x (fun ρ k => f ρ fun a => seqW a fun xs => k xs.reverse) σ H R) : RT.iRevA l.K (tV l x f) σ H R := by
  obtain ⟨L, Hi0, B, Hi, ρ, k, s, hf, ha⟩ := hw
  refine ⟨L, Hi0, B, Hi, ρ, _, s, hf, fun p hp v Hi1 H1 g1 ok1 hv => ?_⟩
  obtain ⟨Hi2, a, vs, xs, g2, s2, rfl, d, hk, hh⟩ := hv.seq g1 hp
  rcases hh with hh | hh
  · exact ⟨a, vs, rfl, .inl ⟨SqL.of (g2.sub _ _ hh), ha.use hk g2 ok1 (it_revL hh d)⟩⟩
  · exact ⟨a, vs, rfl, .inr ⟨sqT_mono g2.sub hh, ha.use hk g2 ok1 (it_revT hh d)⟩⟩
theorem rd_zip (hw : tI l x (fun ρ k => f ρ fun a => g ρ fun b => seq2W a b fun xs ys => k (zipL xs ys)) σ H R) : RZ.iZipA l.K (tCons (tV l x f) (tCons (tV l x g) tNil)) σ H R := by
  obtain ⟨L, Hi0, B, Hi, ρ, k, s, hf, ha⟩ := hw
  refine ⟨L, Hi0, B, Hi, ρ, _, s, hf, fun p hp v Hi1 H1 g1 ok1 hv => ?_⟩
  refine ⟨L, Hi0, B, Hi1, ρ, _, s.step g1 ok1, hp, fun q hq u Hi2 H2 g2 ok2 hu => ?_⟩
  obtain ⟨x1, x2, e1, e2, hq⟩ := hq
  have hv' := hv.mono g2 s.hnf s.bnf
  have hu' := hu.early (Hs := H) g1.dom
  have g12 := g1.trans g2
  -- the second is fixed, then the first
  obtain ⟨Hi3, g3, s3, d3, k3⟩ := hu.fix (His := Hi1) g2 e2
  have hv3 : AvOk l.K L B H Hi3 H2 v p := by
    refine hv'.fixed s3 (fun xs a ea ev => ?_) (fun xs a ea ev => ?_)
    · subst ea ev
      have ho : H1 a ≠ none := by
        obtain ⟨b, ws, e, h1, h2, h3, h4⟩ := hv
        cases e
        rw [h3]
        simp
      refine k3 a (hv'.addr rfl rfl) fun hn z => ?_
      cases q with
      | new zs =>
        obtain ⟨b, ws, e, h1, h2, h3, h4⟩ := hu
        rw [e] at z
        cases z
        exact ho h1
      | _ => cases hn
    · subst ea
      cases e1
  obtain ⟨Hi4, g4, s4, d4, k4⟩ := hv3.fix (His := Hi) (g1.trans g3) e1
  have d3' := Dq.mono s4 _ _ d3
  cases x1 with
  | list xs =>
    cases x2 with
    | list ys =>
      cases d4 with
      | lst h1 h2 =>
        cases d3' with
        | lst h3 h5 => exact ⟨_, _, _, _, rfl, .inl ⟨SqL.of (g4.sub _ _ h1), SqL.of (g4.sub _ _ h3), ha.use hq g4 ok2 (it_zipL h1 h2 h3 h5)⟩⟩
    | _ => exact hq.elim
  | tuple xs =>
    cases x2 with
    | tuple ys =>
      cases d4 with
      | tup h1 h2 =>
        cases d3' with
        | tup h3 h5 => exact ⟨_, _, _, _, rfl, .inr ⟨sqT_mono g4.sub h1, sqT_mono g4.sub h3, ha.use hq g4 ok2 (it_zipT h1 h2 h3 h5)⟩⟩
    | _ => exact hq.elim
  | _ => exact hq.elim
theorem AvOk.intW {v : V} {a : AV} {k : Int → Prop} (h : AvOk K L B Hs Hi H v a) (hw : intW a k) : ∃ i, v = .int i ∧ k i := by
  obtain ⟨i, rfl, hk⟩ := hw
  exact ⟨i, h.int rfl, hk⟩
theorem rd_rng1 (hw : tI l x (fun ρ k => f ρ fun p => Un.intW p fun n => RngOk n ∧ k (rngL 0 1 n.toNat)) σ H R) : iRng1 (tCons (tV l x f) tNil) σ H R := by
  obtain ⟨L, Hi0, B, Hi, ρ, k, s, hf, ha⟩ := hw
  refine ⟨L, Hi0, B, Hi, ρ, _, s, hf, fun p hp v Hi1 H1 g1 ok1 hv => ?_⟩
  obtain ⟨i, rfl, hr, hk⟩ := hv.intW hp
  exact ⟨i, rfl, hr.1, hr.2, ha.use hk g1 ok1 it_rng⟩
theorem rd_rng2 (hw : tI l x (fun ρ k => f ρ fun p => g ρ fun q => Un.intW p fun m => Un.intW q fun n => (RngOk m ∧ RngOk n) ∧ k (rngL m 1 (n - m).toNat)) σ H R) : iRng2 (tCons (tV l x f) (tCons (tV l x g) tNil)) σ H R := by
  obtain ⟨L, Hi0, B, Hi, ρ, k, s, hf, ha⟩ := hw
  refine ⟨L, Hi0, B, Hi, ρ, _, s, hf, fun p hp v Hi1 H1 g1 ok1 hv => ?_⟩
  refine ⟨L, Hi0, B, Hi1, ρ, _, s.step g1 ok1, hp, fun q hq u Hi2 H2 g2 ok2 hu => ?_⟩
  obtain ⟨i, rfl, hq⟩ := (hv.mono g2 s.hnf s.bnf).intW hq
  obtain ⟨j, rfl, hr, hk⟩ := hu.intW hq
  exact ⟨i, j, rfl, ⟨hr.1.1, hr.1.2, hr.2.1, hr.2.2⟩, ha.use hk (g1.trans g2) ok2 it_rng⟩
theorem rd_rng3 (hw : tI l x (fun ρ k => f ρ fun p => g ρ fun q => h ρ fun r => Un.intW p fun m => Un.intW q fun n => Un.intW r fun s => ∃ c, L2.RgC m n s c ∧ k (rngL m s c)) σ H R) : iRng3 (tCons (tV l x f) (tCons (tV l x g) (tCons (tV l x h) tNil))) σ H R := by
  obtain ⟨L, Hi0, B, Hi, ρ, k, s, hf, ha⟩ := hw
  refine ⟨L, Hi0, B, Hi, ρ, _, s, hf, fun p hp v Hi1 H1 g1 ok1 hv => ?_⟩
  refine ⟨L, Hi0, B, Hi1, ρ, _, s.step g1 ok1, hp, fun q hq u Hi2 H2 g2 ok2 hu => ?_⟩
  refine ⟨L, Hi0, B, Hi2, ρ, _, (s.step g1 ok1).step g2 ok2, hq, fun r hr w Hi3 H3 g3 ok3 hw => ?_⟩
  obtain ⟨i, rfl, hr⟩ := (hv.mono (g2.trans g3) s.hnf s.bnf).intW hr
  obtain ⟨j, rfl, hr⟩ := (hu.mono g3 (Loc.nofoot ok1) s.bnf).intW hr
  obtain ⟨c, rfl, n, hc, hk⟩ := hw.intW hr
  exact ⟨i, j, c, n, rfl, hc, ha.use hk ((g1.trans g2).trans g3) ok3 it_rngc⟩
end
end Un
end
section
/-! Un: more readings: calls, tests, slices, displays. -/
namespace Un
open PySem PySem.Spec L2
section
variable {l : Lay} {x : KX} {K : PySem.W.Frag} {L : Loc} {B Hs His Hi H Hi' H' : Hp} {σ : L2.St} {ρ : List SV} {f g h : List SV → KA → Prop} {Q : VK}
theorem rd_call1 {w : AV → KA → Prop} (hw : tV l x (fun ρ k => f ρ fun p => w p k) σ H Q) : tCB (rC1 l.K w) (tCons (tV l x f) tNil) σ H Q := by
  obtain ⟨L, Hi0, B, Hi, ρ, k, s, hf, ha⟩ := hw
  refine ⟨L, Hi0, B, Hi, ρ, _, s, hf, fun p hp v Hi1 H1 g1 ok1 hv => ?_⟩
  exact ⟨v, rfl, L, B, H, Hi1, p, k, g1.sub, ok1, g1.dom, hv, hp, ha.later g1 (fun _ e => e)⟩
theorem rd_call2 {w : AV → AV → KA → Prop} (hw : tV l x (fun ρ k => f ρ fun p => g ρ fun q => w p q k) σ H Q) : tCB (rC2 l.K w) (tCons (tV l x f) (tCons (tV l x g) tNil)) σ H Q := by
  obtain ⟨L, Hi0, B, Hi, ρ, k, s, hf, ha⟩ := hw
  refine ⟨L, Hi0, B, Hi, ρ, _, s, hf, fun p hp v Hi1 H1 g1 ok1 hv => ?_⟩
  refine ⟨L, Hi0, B, Hi1, ρ, _, s.step g1 ok1, hp, fun q hq u Hi2 H2 g2 ok2 hu => ?_⟩
  exact ⟨v, u, L, B, H, Hi2, p, q, k, rfl, g2.sub, ok2, fun a e => g1.dom a (g2.dom a e), hv.mono g2 s.hnf s.bnf, hu.early g1.dom, hq, ha.later (g1.trans g2) (fun _ e => e)⟩
theorem rd_call3 {w : AV → AV → AV → KA → Prop} (hw : tV l x (fun ρ k => f ρ fun p => g ρ fun q => h ρ fun r => w p q r k) σ H Q) : tCB (rC3 l.K w) (tCons (tV l x f) (tCons (tV l x g) (tCons (tV l x h) tNil))) σ H Q := by
  obtain ⟨L, Hi0, B, Hi, ρ, k, s, hf, ha⟩ := hw
  refine ⟨L, Hi0, B, Hi, ρ, _, s, hf, fun p hp v Hi1 H1 g1 ok1 hv => ?_⟩
  refine ⟨L, Hi0, B, Hi1, ρ, _, s.step g1 ok1, hp, fun q hq u Hi2 H2 g2 ok2 hu => ?_⟩
  refine ⟨L, Hi0, B, Hi2, ρ, _, (s.step g1 ok1).step g2 ok2, hq, fun r hr w' Hi3 H3 g3 ok3 hw' => ?_⟩
  exact ⟨v, u, w', L, B, H, Hi3, p, q, r, k, rfl, g3.sub, ok3, fun a e => g1.dom a (g2.dom a (g3.dom a e)), (hv.mono g2 s.hnf s.bnf).mono g3 s.hnf s.bnf, (hu.mono g3 (fun p hp => s.hnf p (g1.dom p hp)) s.bnf).early g1.dom, hw'.early (fun a e => g1.dom a (g2.dom a e)), hr, ha.later ((g1.trans g2).trans g3) (fun _ e => e)⟩
theorem rd_is {T : String} {w : AV → KA → Prop} (hw : tV l x (fun ρ k => f ρ fun p => w p k) σ H Q) : tCB (rIs l.K T w) (tCons (tV l x f) (tCons (tC (.ty T)) tNil)) σ H Q := by
  obtain ⟨L, Hi0, B, Hi, ρ, k, s, hf, ha⟩ := hw
  refine ⟨L, Hi0, B, Hi, ρ, _, s, hf, fun p hp v Hi1 H1 g1 ok1 hv => ?_⟩
  exact ⟨v, rfl, L, B, H, Hi1, p, k, g1.sub, ok1, g1.dom, hv, hp, ha.later g1 (fun _ e => e)⟩
theorem rd_nil (hw : tL l x (fun _ k => k []) σ H Q') : tNil σ H Q' := by
  obtain ⟨L, Hi0, B, Hi, ρ, k, s, hf, ha⟩ := hw
  exact ha [] hf [] Hi H (Grow.refl s.r.g.sub) s.r.src .nil
theorem rd_cons {fr : List SV → (List AV → Prop) → Prop} {Q' : List V → Hp → Prop} (hw : tL l x (fun ρ k => f ρ fun p => fr ρ fun ps => k (p :: ps)) σ H Q') : tCons (tV l x f) (tL l x fr) σ H Q' := by
  obtain ⟨L, Hi0, B, Hi, ρ, k, s, hf, ha⟩ := hw
  refine ⟨L, Hi0, B, Hi, ρ, _, s, hf, fun p hp v Hi1 H1 g1 ok1 hv => ?_⟩
  refine ⟨L, Hi0, B, Hi1, ρ, _, s.step g1 ok1, hp, fun ps hps vs Hi2 H2 g2 ok2 hvs => ?_⟩
  refine ha _ hps _ Hi2 H2 (g1.trans g2) ok2 (.cons (hv.mono g2 s.hnf s.bnf) (fun hn i b hb hnb z => ?_) ?_)
  · -- the first was there when the others came
    have hold : ∀ a, v = .ref a → H1 a ≠ none := fun a e => by
      cases p with
      | new xs =>
        obtain ⟨c, ws, e', h1, h2, h3, h4⟩ := hv
        rw [e] at e'
        cases e'
        rw [h3]
        simp
      | _ => cases hn
    have hb' := hvs.get z hb
    cases b with
    | new ys =>
      obtain ⟨c, ws, e', h1, h2, h3, h4⟩ := hb'
      exact hold c e' h1
    | _ => cases hnb
  · have hls : ∀ {vs : List V} {as : List AV}, LsOk l.K L B H1 Hi2 H2 vs as → LsOk l.K L B H Hi2 H2 vs as := fun h => by
      induction h with
      | nil => exact .nil
      | cons h hn _ ih => exact .cons (h.early g1.dom) hn ih
    exact hls hvs
theorem rd_and (hw : tV l x (fun ρ k => f ρ fun p => ∃ c, p = .d (.bool c) ∧ if c = true then g ρ k else k (.d (.bool false))) σ H Q) : tAndV (tV l x f) (tV l x g) σ H Q := by
  obtain ⟨L, Hi0, B, Hi, ρ, k, s, hf, ha⟩ := hw
  refine ⟨L, Hi0, B, Hi, ρ, _, s, hf, fun p hp v Hi1 H1 g1 ok1 hv => ?_⟩
  obtain ⟨c, rfl, hp⟩ := hp
  refine ⟨c, hv.bool rfl, ?_⟩
  cases c with
  | true => exact ⟨L, Hi0, B, Hi1, ρ, _, s.step g1 ok1, hp, ha.later g1 g1.dom⟩
  | false => exact ha _ hp _ _ _ g1 ok1 (.bl _)
theorem rd_or (hw : tV l x (fun ρ k => f ρ fun p => ∃ c, p = .d (.bool c) ∧ if c = true then k (.d (.bool true)) else g ρ k) σ H Q) : tOrV (tV l x f) (tV l x g) σ H Q := by
  obtain ⟨L, Hi0, B, Hi, ρ, k, s, hf, ha⟩ := hw
  refine ⟨L, Hi0, B, Hi, ρ, _, s, hf, fun p hp v Hi1 H1 g1 ok1 hv => ?_⟩
  obtain ⟨c, rfl, hp⟩ := hp
  refine ⟨c, hv.bool rfl, ?_⟩
  cases c with
  | true => exact ha _ hp _ _ _ g1 ok1 (.bl _)
  | false => exact ⟨L, Hi0, B, Hi1, ρ, _, s.step g1 ok1, hp, ha.later g1 g1.dom⟩
theorem rd_not (hw : tV l x (fun ρ k => f ρ fun p => ∃ c, p = .d (.bool c) ∧ k (.d (.bool (!c)))) σ H Q) : tNotV (tV l x f) σ H Q := by
  obtain ⟨L, Hi0, B, Hi, ρ, k, s, hf, ha⟩ := hw
  refine ⟨L, Hi0, B, Hi, ρ, _, s, hf, fun p hp v Hi1 H1 g1 ok1 hv => ?_⟩
  obtain ⟨c, rfl, hp⟩ := hp
  exact ⟨c, hv.bool rfl, ha _ hp _ _ _ g1 ok1 (.bl _)⟩
theorem AfterP.later {α : Type} {k : α → Prop} {Q : α → Hp → Prop} (h : AfterP L Hi H k Q) (g : Grow L Hi H Hi' H') : AfterP L Hi' H' k Q := fun a hk Hi2 H2 g2 ok2 => h a hk Hi2 H2 (g.trans g2) ok2
theorem rd_andT {f g : List SV → (Bool → Prop) → Prop} {Q : Bool → Hp → Prop} (hw : tT l x (fun ρ k => f ρ fun c => if c = true then g ρ k else k false) σ H Q) : tAnd (tT l x f) (tT l x g) σ H Q := by
  obtain ⟨L, Hi0, B, Hi, ρ, k, s, hf, ha⟩ := hw
  refine ⟨L, Hi0, B, Hi, ρ, _, s, hf, fun c hc Hi1 H1 g1 ok1 => ?_⟩
  cases c with
  | true => exact ⟨L, Hi0, B, Hi1, ρ, _, s.step g1 ok1, hc, ha.later g1⟩
  | false => exact ha _ hc _ _ g1 ok1
theorem rd_orT {f g : List SV → (Bool → Prop) → Prop} {Q : Bool → Hp → Prop} (hw : tT l x (fun ρ k => f ρ fun c => if c = true then k true else g ρ k) σ H Q) : tOr (tT l x f) (tT l x g) σ H Q := by
  obtain ⟨L, Hi0, B, Hi, ρ, k, s, hf, ha⟩ := hw
  refine ⟨L, Hi0, B, Hi, ρ, _, s, hf, fun c hc Hi1 H1 g1 ok1 => ?_⟩
  cases c with
  | true => exact ha _ hc _ _ g1 ok1
  | false => exact ⟨L, Hi0, B, Hi1, ρ, _, s.step g1 ok1, hc, ha.later g1⟩
theorem rd_notT {f : List SV → (Bool → Prop) → Prop} {Q : Bool → Hp → Prop} (hw : tT l x (fun ρ k => f ρ fun c => k (!c)) σ H Q) : tNot (tT l x f) σ H Q := by
  obtain ⟨L, Hi0, B, Hi, ρ, k, s, hf, ha⟩ := hw
  exact ⟨L, Hi0, B, Hi, ρ, _, s, hf, fun c hc Hi1 H1 g1 ok1 => ha _ hc _ _ g1 ok1⟩
theorem rd_truth {Q : Bool → Hp → Prop} (hw : tT l x (fun ρ k => f ρ fun a => truthW a k) σ H Q) : tV l x f σ H fun v H' => ∃ b, TruV l.K v H' b ∧ Q b H' := by
  obtain ⟨L, Hi0, B, Hi, ρ, k, s, hf, ha⟩ := hw
  refine ⟨L, Hi0, B, Hi, ρ, _, s, hf, fun p hp v Hi1 H1 g1 ok1 hv => ?_⟩
  obtain ⟨b, hb, hk⟩ := hv.tru g1.sub hp
  exact ⟨b, hb, ha b hk _ _ g1 ok1⟩
theorem rd_if {c : List SV → (Bool → Prop) → Prop} (hw : tV l x (fun ρ k => c ρ fun t => if t = true then f ρ k else g ρ k) σ H Q) : tIf (tT l x c) (tV l x f) (tV l x g) σ H Q := by
  obtain ⟨L, Hi0, B, Hi, ρ, k, s, hf, ha⟩ := hw
  refine ⟨L, Hi0, B, Hi, ρ, _, s, hf, fun t ht Hi1 H1 g1 ok1 => ?_⟩
  cases t with
  | true => exact ⟨L, Hi0, B, Hi1, ρ, _, s.step g1 ok1, ht, ha.later g1 g1.dom⟩
  | false => exact ⟨L, Hi0, B, Hi1, ρ, _, s.step g1 ok1, ht, ha.later g1 g1.dom⟩
theorem rd_tup {fs : List SV → (List AV → Prop) → Prop} (hw : tV l x (fun ρ k => fs ρ fun as => ∃ xs, embs? as = some xs ∧ xs.length ≤ sizeLine ∧ k (.d (.tuple xs))) σ H Q) : tTup (tL l x fs) σ H Q := by
  obtain ⟨L, Hi0, B, Hi, ρ, k, s, hf, ha⟩ := hw
  refine ⟨L, Hi0, B, Hi, ρ, _, s, hf, fun as has vs Hi1 H1 g1 ok1 hvs => ?_⟩
  obtain ⟨xs, e, hz, hk⟩ := has
  obtain ⟨Hi2, g2, s2, d2, _⟩ := hvs.fix (His := Hi) g1 e
  refine ⟨by rw [d2.len]; exact hz, fun p hp => ?_⟩
  exact ha _ hk _ _ _ (g2.trans (Grow.laid g2.sub hp)) (L.okNew ok1 hp) (.tup (SqT.of upd_same) (DqAll.upd (g2.sub.free hp) d2))
theorem rd_lst {fs : List SV → (List AV → Prop) → Prop} (hw : tV l x (fun ρ k => fs ρ fun as => ∃ xs, embs? as = some xs ∧ xs.length ≤ sizeLine ∧ k (.new xs)) σ H Q) : tLst (tL l x fs) σ H Q := by
  obtain ⟨L, Hi0, B, Hi, ρ, k, s, hf, ha⟩ := hw
  refine ⟨L, Hi0, B, Hi, ρ, _, s, hf, fun as has vs Hi1 H1 g1 ok1 hvs => ?_⟩
  obtain ⟨xs, e, hz, hk⟩ := has
  obtain ⟨Hi2, g2, s2, d2, _⟩ := hvs.fix (His := Hi) g1 e
  refine ⟨by rw [d2.len]; exact hz, fun p hp => ?_⟩
  exact ha _ hk _ _ _ (g2.trans (Grow.laid' g2.sub hp)) (L.okNew ok1 hp) ⟨p, vs, rfl, g1.dom p hp, g2.sub.free hp, upd_same, d2⟩
theorem rd_rev (hw : tV l x (fun ρ k => f ρ fun p => revW p k) σ H Q) : tRevA l.K (tV l x f) σ H Q := by
  obtain ⟨L, Hi0, B, Hi, ρ, k, s, hf, ha⟩ := hw
  refine ⟨L, Hi0, B, Hi, ρ, _, s, hf, fun p hp v Hi1 H1 g1 ok1 hv => ?_⟩
  obtain ⟨d, e, hk⟩ := hp
  cases d with
  | list xs =>
    obtain ⟨a, vs, rfl, h1, d1⟩ := hv.list g1.sub e
    exact ⟨a, vs, rfl, .inl ⟨SqL.of h1, (ha.later g1 (fun _ e => e)).newL hk g1.sub ok1 g1.dom d1.reverse⟩⟩
  | tuple xs =>
    obtain ⟨a, vs, rfl, h0, h1, d1⟩ := hv.tuple g1.sub e
    exact ⟨a, vs, rfl, .inr ⟨h1, (ha.later g1 (fun _ e => e)).newT hk g1.sub ok1 d1.reverse⟩⟩
  | _ => exact hk.elim
/-- a slice -/
def rSlW (K : PySem.W.Frag) : V → Option Int → Option Int → Hp → VK → Prop := fun y lo hi H Q => rW1 K (fun a k => slcW a lo hi k) y H Q
theorem sl_ok {X : Cx} : SlR X (rSlW X.K) := by
  intro pins s σ H y v vl vu lo hi sl Q I rx hsl pl pu h
  exact sl_w lo hi pins s σ H y v vl vu sl Q I rx hsl pl pu h
theorem rd_slc {fl fh : List SV → (Option Int → Prop) → Prop} (hw : tV l x (fun ρ k => f ρ fun p => fl ρ fun lo => fh ρ fun hi => slcW p lo hi k) σ H Q) : tSl (rSlW l.K) (tV l x f) (tO l x fl) (tO l x fh) σ H Q := by
  obtain ⟨L, Hi0, B, Hi, ρ, k, s, hf, ha⟩ := hw
  refine ⟨L, Hi0, B, Hi, ρ, _, s, hf, fun p hp v Hi1 H1 g1 ok1 hv => ?_⟩
  refine ⟨L, Hi0, B, Hi1, ρ, _, s.step g1 ok1, hp, fun lo hlo Hi2 H2 g2 ok2 => ?_⟩
  refine ⟨L, Hi0, B, Hi2, ρ, _, (s.step g1 ok1).step g2 ok2, hlo, fun hi hhi Hi3 H3 g3 ok3 => ?_⟩
  exact ⟨L, B, H, Hi3, p, k, g3.sub, ok3, ((g1.trans g2).trans g3).dom, hv.mono (g2.trans g3) s.hnf s.bnf, hhi, ha.later ((g1.trans g2).trans g3) (fun _ e => e)⟩
theorem rd_none {Q : Option Int → Hp → Prop} (hw : tO l x (fun _ k => k none) σ H Q) : tNoPart σ H Q := by
  obtain ⟨L, Hi0, B, Hi, ρ, k, s, hf, ha⟩ := hw
  exact ha _ hf _ _ (Grow.refl s.r.g.sub) s.r.src
theorem rd_part {Q : Option Int → Hp → Prop} (hw : tO l x (fun ρ k => f ρ fun a => Un.intW a fun n => k (some n)) σ H Q) : tPart (tV l x f) σ H Q := by
  obtain ⟨L, Hi0, B, Hi, ρ, k, s, hf, ha⟩ := hw
  refine ⟨L, Hi0, B, Hi, ρ, _, s, hf, fun p hp v Hi1 H1 g1 ok1 hv => ?_⟩
  obtain ⟨i, rfl, hk⟩ := hv.intW hp
  exact ⟨i, rfl, ha _ hk _ _ g1 ok1⟩
/-- a test for None -/
theorem AvOk.isNon {v : V} {a : AV} {d : PyData} (h : AvOk K L B Hs Hi H v a) (sm : Same Hi H) (e : a.dat? = some d) : decide (v = .non) = (match d with | .none => true | _ => false) := by
  have := h.dq sm e
  cases this <;> simp
theorem rd_isN (hw : tV l x (fun ρ k => f ρ fun p => w1 .isN p k) σ H Q) : tIsN (tV l x f) σ H Q := by
  obtain ⟨L, Hi0, B, Hi, ρ, k, s, hf, ha⟩ := hw
  refine ⟨L, Hi0, B, Hi, ρ, _, s, hf, fun p hp v Hi1 H1 g1 ok1 hv => ?_⟩
  obtain ⟨d, e, hk⟩ := hp
  have q := hv.isNon g1.sub e
  show Q (.bl (decide (v = .non))) H1
  rw [q]
  cases d <;> exact ha _ hk _ _ _ g1 ok1 (.bl _)
theorem rd_notN (hw : tV l x (fun ρ k => f ρ fun p => w1 .notN p k) σ H Q) : tNotN (tV l x f) σ H Q := by
  obtain ⟨L, Hi0, B, Hi, ρ, k, s, hf, ha⟩ := hw
  refine ⟨L, Hi0, B, Hi, ρ, _, s, hf, fun p hp v Hi1 H1 g1 ok1 hv => ?_⟩
  obtain ⟨d, e, hk⟩ := hp
  have q := hv.isNon g1.sub e
  show Q (.bl (!decide (v = .non))) H1
  rw [q]
  cases d <;> exact ha _ hk _ _ _ g1 ok1 (.bl _)
theorem rd_isNT {Q : Bool → Hp → Prop} (hw : tT l x (fun ρ k => f ρ fun p => w1 .isN p fun a => truthW a k) σ H Q) : tB (tIsN (tV l x f)) σ H Q := by
  obtain ⟨L, Hi0, B, Hi, ρ, k, s, hf, ha⟩ := hw
  refine ⟨L, Hi0, B, Hi, ρ, _, s, hf, fun p hp v Hi1 H1 g1 ok1 hv => ?_⟩
  obtain ⟨d, e, hk⟩ := hp
  have q := hv.isNon g1.sub e
  refine ⟨_, rfl, ?_⟩
  rw [q]
  cases d <;> (obtain ⟨y, ey, hy⟩ := hk; cases ey; exact ha _ hy _ _ g1 ok1)
theorem rd_notNT {Q : Bool → Hp → Prop} (hw : tT l x (fun ρ k => f ρ fun p => w1 .notN p fun a => truthW a k) σ H Q) : tB (tNotN (tV l x f)) σ H Q := by
  obtain ⟨L, Hi0, B, Hi, ρ, k, s, hf, ha⟩ := hw
  refine ⟨L, Hi0, B, Hi, ρ, _, s, hf, fun p hp v Hi1 H1 g1 ok1 hv => ?_⟩
  obtain ⟨d, e, hk⟩ := hp
  have q := hv.isNon g1.sub e
  refine ⟨_, rfl, ?_⟩
  rw [q]
  cases d <;> (obtain ⟨y, ey, hy⟩ := hk; cases ey; exact ha _ hy _ _ g1 ok1)
theorem rd_dat {d : PyData} {v : V} (hd : ∀ Hi, Dq l.K Hi v d) (hw : tV l x (fun _ k => k (.d d)) σ H Q) : tC v σ H Q := by
  obtain ⟨L, Hi0, B, Hi, ρ, k, s, hf, ha⟩ := hw
  exact ha _ hf _ _ _ (Grow.refl s.r.g.sub) s.r.src (hd _)
theorem rd_var {i : Nat} (hw : tV l x (fun ρ k => varW ρ i k) σ H Q) : tVar i σ H Q := by
  obtain ⟨L, Hi0, B, Hi, ρ, k, s, hf, ha⟩ := hw
  have hf' : (match ρ[i]? with
    | some (.d x) => k (.d x)
    | some (.own xs) => k (.bor xs)
    | some .src => k .src
    | _ => False) := hf
  split at hf'
  · rename_i y e
    obtain ⟨v, e1, u, rfl, hu⟩ := s.r.slot i _ e
    exact ⟨u, e1, ha _ hf' _ _ _ (Grow.refl s.r.g.sub) s.r.src hu⟩
  · rename_i y e
    obtain ⟨v, e1, a, vs, rfl, hu⟩ := s.r.slot i _ e
    exact ⟨_, e1, ha _ hf' _ _ _ (Grow.refl s.r.g.sub) s.r.src ⟨a, vs, rfl, hu⟩⟩
  · rename_i e
    obtain ⟨v, e1, rfl⟩ := s.r.slot i _ e
    exact ⟨_, e1, ha _ hf' _ _ _ (Grow.refl s.r.g.sub) s.r.src rfl⟩
  · exact hf'.elim
end
end Un
end
section
/-! Un: a def called. -/
namespace Un
open PySem PySem.Spec L2

/-- an argument as it stands at a def's entry -/
def ArgOk (K : PySem.W.Frag) (L : Loc) (Hi : Hp) (v : V) : SV → Prop
  | .d x => Dq K Hi v x
  | .src => v = .ref L.p
  | _ => False
inductive Two {α β : Type} (R : α → β → Prop) : List α → List β → Prop
  | nil : Two R [] []
  | cons {a : α} {b : β} {as : List α} {bs : List β} (h : R a b) (t : Two R as bs) : Two R (a :: as) (b :: bs)
namespace Two
variable {α β : Type} {R S : α → β → Prop}
theorem len : ∀ {as : List α} {bs : List β}, Two R as bs → as.length = bs.length
  | _, _, .nil => rfl
  | _, _, .cons _ t => congrArg Nat.succ (len t)
theorem get : ∀ {as : List α} {bs : List β} {i : Nat} {b : β}, Two R as bs → bs[i]? = some b → ∃ a, as[i]? = some a ∧ R a b
  | _, _, i, b, .nil, e => by simp at e
  | _, _, 0, b, .cons h t, e => by
    simp at e
    subst e
    exact ⟨_, rfl, h⟩
  | _, _, i + 1, b, .cons h t, e => by
    obtain ⟨a, h1, h2⟩ := get (i := i) (b := b) t (by simpa using e)
    exact ⟨a, by simpa using h1, h2⟩
theorem append : ∀ {as as' : List α} {bs bs' : List β}, Two R as bs → Two R as' bs' → Two R (as ++ as') (bs ++ bs')
  | _, _, _, _, .nil, s => s
  | _, _, _, _, .cons h t, s => .cons h (append t s)
theorem imp (h : ∀ a b, R a b → S a b) : ∀ {as : List α} {bs : List β}, Two R as bs → Two S as bs
  | _, _, .nil => .nil
  | _, _, .cons q t => .cons (h _ _ q) (imp h t)
theorem perm {as : List α} {bs : List β} (t : Two R as bs) : ∀ {pm : List Nat} {cs : List β}, permL bs pm = some cs → ∃ ds, permL as pm = some ds ∧ Two R ds cs
  | [], cs, e => by
    cases e
    exact ⟨[], rfl, .nil⟩
  | i :: pm, cs, e => by
    have e' : (match bs[i]?, permL bs pm with
      | some a, some as => some (a :: as)
      | _, _ => none) = some cs := e
    split at e'
    · rename_i b cs' h1 h2
      cases e'
      obtain ⟨a, g1, g2⟩ := t.get h1
      obtain ⟨ds, g3, g4⟩ := perm t h2
      refine ⟨a :: ds, ?_, .cons g2 g4⟩
      show (match as[i]?, permL as pm with
        | some a, some as => some (a :: as)
        | _, _ => none) = _
      rw [g1, g3]
    · cases e'
end Two
theorem permL_len {α : Type} {l : List α} : ∀ {pm : List Nat} {cs : List α}, permL l pm = some cs → cs.length = pm.length
  | [], cs, e => by cases e; rfl
  | i :: pm, cs, e => by
    have e' : (match l[i]?, permL l pm with
      | some a, some as => some (a :: as)
      | _, _ => none) = some cs := e
    split at e'
    · rename_i b cs' h1 h2
      cases e'
      rw [List.length_cons, List.length_cons, permL_len h2]
    · cases e'
/-- the values in the parameters' order -/
def gP {α : Type} (pm : List Nat) (us ws : List α) : List α := (permL (us ++ ws) pm).getD []
theorem vals_two : ∀ {vs : List V} {us : List Value}, Vals vs us → Two RelV vs us
  | _, _, .nil => .nil
  | _, _, .cons r t => .cons r (vals_two t)
theorem two_vals : ∀ {vs : List V} {us : List Value}, Two RelV vs us → Vals vs us
  | _, _, .nil => .nil
  | _, _, .cons r t => .cons r (two_vals t)
theorem permL_none {α β : Type} {l : List α} {m : List β} (h : l.length = m.length) : ∀ {pm : List Nat}, permL m pm = none → permL l pm = none
  | [], e => nomatch e
  | i :: pm, e => by
    have e' : (match m[i]?, permL m pm with
      | some a, some as => some (a :: as)
      | _, _ => none) = none := e
    show (match l[i]?, permL l pm with
      | some a, some as => some (a :: as)
      | _, _ => none) = none
    cases h1 : m[i]? with
    | none =>
      have : l[i]? = none := by
        rw [List.getElem?_eq_none_iff] at h1 ⊢
        omega
      rw [this]
    | some a =>
      rw [h1] at e'
      cases h2 : permL m pm with
      | none =>
        rw [permL_none h h2]
        cases l[i]? <;> rfl
      | some as =>
        rw [h2] at e'
        cases e'
theorem gP_rel (pm : List Nat) {vs : List V} {us : List Value} {zs : List V} {ws : List Value} (r : Vals vs us) (q : Vals zs ws) : Vals (gP pm vs zs) (gP pm us ws) := by
  have t := (vals_two r).append (vals_two q)
  unfold gP
  cases e : permL (us ++ ws) pm with
  | some cs =>
    obtain ⟨ds, e2, t2⟩ := t.perm e
    rw [e2]
    exact two_vals t2
  | none =>
    rw [permL_none t.len e]
    exact .nil

/-- what a def promises, from what it computes: F -/
def spF (l : Lay) (F : List SV → KA → KX → Prop) (n : Nat) : Sp := fun vs H Q E => ∃ L Hi args k x, l.κ L ∧ L.ok H ∧ Same Hi H ∧ (∀ a, L.foot a → Hi a = none) ∧ args.length = n ∧ Two (ArgOk l.K L Hi) vs args ∧ F args k x ∧
  After l.K L H H Hi H k Q ∧ ∀ c fs cls d Hi' H', x c fs → Grow L Hi H Hi' H' → L.ok H' → l.XR c fs cls d Hi' H' → E cls d H'
structure CallOk (P : Program) (w : World) (mg : Str → Option Value) (base : Heap) (l : Lay) (k : Nat) (F : List SV → KA → KX → Prop) (p : Pat) : Prop where
  ex : ∃ (a : Addr) (fd : FuncData) (ps : List Str), mg p.x = some (.ref a) ∧ PySem.W.keepIn l.K (.ref a) = true ∧ ps.length = p.perm.length ∧ KBg l.K fd p.n ps p.ks (gP p.perm) (gP p.perm) ∧ FnG P w l.K mg base k a fd ps (spF l F ps.length)

section
variable {l : Lay} {x : KX} {K : PySem.W.Frag} {L : Loc} {B Hs His Hi H Hi' H' : Hp} {σ : L2.St} {ρ : List SV} {f g h : List SV → KA → Prop} {Q : VK}
theorem Dq.bare_mono {H H' : Hp} (hs : ∀ b o, H b = some o → (∀ ws, o ≠ .lst ws) → H' b = some o) : ∀ (d : PyData) (v : V), bare d = true → Dq K H v d → Dq K H' v d := by
  have main : ∀ d, (∀ v, bare d = true → Dq K H v d → Dq K H' v d) := by
    intro d
    refine PyData.rec (motive_1 := fun d => ∀ v, bare d = true → Dq K H v d → Dq K H' v d) (motive_2 := fun ds => ∀ vs, bareAll ds = true → DqAll K H vs ds → DqAll K H' vs ds) (motive_3 := fun _ => True) (motive_4 := fun _ => True) ?_ ?_ ?_ ?_ ?_ ?_ ?_ ?_ ?_ ?_ ?_ ?_ d
    · intro v _ h; cases h; exact .non
    · intro b v _ h; cases h; exact .bl b
    · intro i v _ h; cases h; exact .int i
    · intro z v _ h; cases h; exact .str z
    · intro xs _ v hb _; simp [bare] at hb
    · intro xs ih v hb h
      cases h with
      | tup h1 h2 =>
        refine .tup ?_ (ih _ (by simpa [bare] using hb) h2)
        rcases h1 with (h1 | ⟨o, h1⟩) | h1
        · exact .inl (.inl (hs _ _ h1 fun _ z => nomatch z))
        · exact .inl (.inr ⟨o, hs _ _ h1 fun _ z => nomatch z⟩)
        · exact .inr h1
    · intro kvs _ v _ h; cases h
    · intro vs _ h; cases h; exact .nil
    · intro d ds ih1 ih2 vs hb h
      cases h with
      | cons h1 h2 =>
        have hb' : bare d = true ∧ bareAll ds = true := by simpa [bareAll] using hb
        exact .cons (ih1 _ hb'.1 h1) (ih2 _ hb'.2 h2)
    · trivial
    · intros; trivial
    · intros; trivial
  exact fun d v => main d v
/-- arguments are fixed; what is newly fixed is a list that was not there at the def's entry -/
theorem args_fix (sm : Same Hi H) (hb : ∀ p, Hs p = none → B p = none) : ∀ {vs : List V} {as : List AV}, Two (AvOk K L B Hs Hi H) vs as → ∃ Hi2, Same Hi Hi2 ∧ Same Hi2 H ∧ Two (ArgOk K L Hi2) vs (as.map argOf) ∧
    ∀ b, Hi2 b ≠ none → Hi b = none → B b = none ∧ (∃ ws, Hi2 b = some (.lst ws)) ∧ (as.any AV.isBor = false → Hs b = none)
  | _, _, .nil => ⟨Hi, Same.refl _, sm, .nil, fun b h1 h2 => absurd h2 h1⟩
  | _, _, .cons (a := v) (b := a) (as := vs) (bs := as) h t => by
    obtain ⟨Hi2, s1, s2, t2, k2⟩ := args_fix sm hb t
    have arg_mono : ∀ {Hi3 : Hp}, Same Hi2 Hi3 → Two (ArgOk K L Hi3) vs (as.map argOf) := fun s => t2.imp fun v a q => by
      cases a with
      | d x => exact Dq.mono s _ _ q
      | src => exact q
      | _ => exact q.elim
    have place : ∀ (p : Addr) (ws : List V) (xs : List PyData), H p = some (.lst ws) → DqAll K Hi ws xs → B p = none → (a.isBor = false → Hs p = none) → v = .ref p → argOf a = .d (.list xs) → ∃ Hi3, Same Hi Hi3 ∧ Same Hi3 H ∧ Two (ArgOk K L Hi3) (v :: vs) ((a :: as).map argOf) ∧
        ∀ b, Hi3 b ≠ none → Hi b = none → B b = none ∧ (∃ ws, Hi3 b = some (.lst ws)) ∧ ((a :: as).any AV.isBor = false → Hs b = none) := fun p ws xs h1 h2 h3 h4 ev ea => by
      have hany : (a :: as).any AV.isBor = false → a.isBor = false ∧ as.any AV.isBor = false := fun z => by
        rw [List.any_cons, Bool.or_eq_false_iff] at z
        exact z
      cases q : Hi2 p with
      | some o =>
        have e : o = .lst ws := by
          have := s2 _ _ q
          rw [h1] at this
          exact (Option.some.inj this).symm
        subst e
        refine ⟨Hi2, s1, s2, .cons ?_ t2, fun b z1 z2 => ?_⟩
        · rw [ea, ev]
          exact .lst q (DqAll.mono s1 _ _ h2)
        · obtain ⟨y1, y2, y3⟩ := k2 b z1 z2
          exact ⟨y1, y2, fun z => y3 (hany z).2⟩
      | none =>
        have up : Same Hi2 (L2.upd Hi2 p (.lst ws)) := fun b u e => by rw [upd_ne (ne_of_none e q)]; exact e
        refine ⟨L2.upd Hi2 p (.lst ws), s1.trans up, fun b u e => ?_, .cons ?_ (arg_mono up), fun b z1 z2 => ?_⟩
        · by_cases eb : b = p
          · rw [eb, upd_same] at e
            rw [eb, h1]
            exact e
          · rw [upd_ne eb] at e
            exact s2 _ _ e
        · rw [ea, ev]
          exact .lst upd_same (DqAll.mono (s1.trans up) _ _ h2)
        · by_cases eb : b = p
          · subst eb
            exact ⟨h3, ⟨ws, upd_same⟩, fun z => h4 (hany z).1⟩
          · rw [upd_ne eb] at z1 ⊢
            obtain ⟨y1, y2, y3⟩ := k2 b z1 z2
            exact ⟨y1, y2, fun z => y3 (hany z).2⟩
    have plain : ArgOk K L Hi2 v (argOf a) → a.isBor = false → ∃ Hi3, Same Hi Hi3 ∧ Same Hi3 H ∧ Two (ArgOk K L Hi3) (v :: vs) ((a :: as).map argOf) ∧
        ∀ b, Hi3 b ≠ none → Hi b = none → B b = none ∧ (∃ ws, Hi3 b = some (.lst ws)) ∧ ((a :: as).any AV.isBor = false → Hs b = none) := fun q hb => ⟨Hi2, s1, s2, .cons q t2, fun b z1 z2 => by
      obtain ⟨y1, y2, y3⟩ := k2 b z1 z2
      refine ⟨y1, y2, fun z => y3 ?_⟩
      rw [List.any_cons, Bool.or_eq_false_iff] at z
      exact z.2⟩
    cases a with
    | d x => exact plain (Dq.mono s1 _ _ h) rfl
    | src => exact plain h rfl
    | new xs =>
      obtain ⟨p, ws, rfl, h1, h2, h3, h4⟩ := h
      exact place p ws xs h3 h4 (hb p h1) (fun _ => h1) rfl rfl
    | bor xs =>
      obtain ⟨p, ws, rfl, h1, h2, h3, h4⟩ := h
      exact place p ws xs h3 h4 h1 (fun z => nomatch z) rfl rfl
theorem LsOk.two : ∀ {vs : List V} {as : List AV}, LsOk K L B Hs Hi H vs as → Two (AvOk K L B Hs Hi H) vs as
  | _, _, .nil => .nil
  | _, _, .cons h _ t => .cons h (LsOk.two t)
/-- f(..) -/
theorem rd_call {fe : FE} {nf n n2 m : Nat} {pm : List Nat} {fs gs : List SV → (List AV → Prop) → Prop} (hm : pm.length = m)
    (hw : tV l x (fun ρ k => fs ρ fun as => as.length = n ∧ gs ρ fun bs => bs.length = n2 ∧ ∃ cs, permL ((as ++ bs).map argOf) pm = some cs ∧ callW fe x nf ((as ++ bs).any AV.isBor) cs k) σ H Q) :
    tCallG (spF l (fe nf) m) n n2 (gP pm) l.W (tL l x fs) (tL l x gs) σ H Q := by
  obtain ⟨L, Hi0, B, Hi, ρ, k, s, hf, ha⟩ := hw
  refine ⟨L, Hi0, B, Hi, ρ, _, s, hf, fun as has vs Hi1 H1 g1 ok1 hvs => ?_⟩
  obtain ⟨hlen, has⟩ := has
  refine ⟨L, Hi0, B, Hi1, ρ, _, s.step g1 ok1, has, fun bs hbs zs Hi2 H2 g2 ok2 hzs => ?_⟩
  obtain ⟨hlen2, cs, hpm, hc⟩ := hbs
  refine ⟨by rw [hvs.len]; exact hlen, by rw [hzs.len]; exact hlen2, ?_⟩
  have g12 := g1.trans g2
  have two : Two (AvOk l.K L B H Hi2 H2) (vs ++ zs) (as ++ bs) := (hvs.two.imp fun v a q => q.mono g2 s.hnf s.bnf).append (hzs.two.imp fun v a q => q.early g1.dom)
  obtain ⟨Hi3, s3, s4, targ, kf⟩ := args_fix g2.sub s.hb two
  obtain ⟨us, eus, tus⟩ := targ.perm hpm
  have egp : gP pm vs zs = us := by
    unfold gP
    rw [eus] <;> rfl
  rw [egp]
  have hfoot : ∀ a, L.foot a → Hi3 a = none := fun a fa => by
    cases q : Hi3 a with
    | none => rfl
    | some o =>
      have hB : B a ≠ none := L.dom B a s.r.srcB fa
      have h2 : Hi2 a = none := ((s.r.g.trans g12).avoid s.r.av0 fun b fb => L.dom B b s.r.srcB fb) a fa
      exact absurd (kf a (by rw [q]; simp) h2).1 hB
  have hargs : cs.length = m := by rw [permL_len hpm, hm]
  cases hb : (as ++ bs).any AV.isBor with
  | false =>
    rw [hb] at hc
    have hc : fe nf cs k x := hc
    have g3 : Grow L Hi H Hi3 H2 := ⟨g12.keep, g12.dom, g12.mono.trans s3, s4, fun b z1 z2 => by
      cases q : Hi2 b with
      | none => exact (kf b z1 q).2.2 hb
      | some o => exact g12.fr b (by rw [q]; simp) z2⟩
    refine ⟨L, Hi3, cs, k, x, s.k, ok2, s4, hfoot, hargs, tus, hc, fun av hk v Hi4 H4 g4 ok4 hv => ?_, fun c fs cls d Hi4 H4 h1 h2 h3 h4 => s.e c fs cls d Hi4 H4 h1 (g3.trans h2) h3 h4⟩
    refine ha av hk v Hi4 H4 (g3.trans g4) ok4 ?_
    cases av with
    | d y => exact hv
    | new ys =>
      obtain ⟨p, ws, rfl, h1, h2⟩ := hv
      exact ⟨p, ws, rfl, g12.dom p h1, h2⟩
    | bor ys =>
      obtain ⟨p, ws, rfl, h1, h2⟩ := hv
      exact ⟨p, ws, rfl, s.hb p (g12.dom p h1), h2⟩
    | src => exact hv
  | true =>
    rw [hb] at hc
    have hc : fe nf cs (fun r => ∃ y, r = .d y ∧ bare y = true ∧ k r) noX := hc
    refine ⟨L, Hi3, cs, _, noX, s.k, ok2, s4, hfoot, hargs, tus, hc, fun av hk v Hi4 H4 g4 ok4 hv => ?_, fun c fs cls d Hi4 H4 h1 h2 h3 h4 => h1.elim⟩
    obtain ⟨y, rfl, hy, hk⟩ := hk
    have hv : Dq l.K Hi4 v y := hv
    have up : ∀ b, Hi2 b = none → ∀ o, Hi3 b = some o → ∃ ws, Hi4 b = some (.lst ws) := fun b z1 o z2 => by
      obtain ⟨_, ⟨ws, e⟩, _⟩ := kf b (by rw [z2]; simp) z1
      exact ⟨ws, g4.mono _ _ e⟩
    let Hm : Hp := fun b => match Hi2 b, Hi3 b with
      | none, some _ => none
      | _, _ => Hi4 b
    have hm1 : ∀ b o, Hi2 b = some o → Hm b = Hi4 b := fun b o e => by
      show (match Hi2 b, Hi3 b with
        | none, some _ => none
        | _, _ => Hi4 b) = _
      rw [e]
    have hm2 : ∀ b, Hi2 b = none → Hi3 b = none → Hm b = Hi4 b := fun b e e' => by
      show (match Hi2 b, Hi3 b with
        | none, some _ => none
        | _, _ => Hi4 b) = _
      rw [e, e']
    have hm3 : ∀ b o, Hi2 b = none → Hi3 b = some o → Hm b = none := fun b o e e' => by
      show (match Hi2 b, Hi3 b with
        | none, some _ => none
        | _, _ => Hi4 b) = _
      rw [e, e']
    have gm1 : Same Hm H4 := fun b o e => by
      cases q : Hi2 b with
      | some o' =>
        rw [hm1 b o' q] at e
        exact g4.sub _ _ e
      | none =>
        cases q3 : Hi3 b with
        | none =>
          rw [hm2 b q q3] at e
          exact g4.sub _ _ e
        | some o' =>
          rw [hm3 b o' q q3] at e
          cases e
    have gm2 : ∀ b, Hm b ≠ none → Hi2 b = none → H2 b = none := fun b z1 z2 => by
      cases q3 : Hi3 b with
      | none =>
        rw [hm2 b z2 q3] at z1
        exact g4.fr b z1 q3
      | some o' => exact absurd (hm3 b o' z2 q3) z1
    have gm : Grow L Hi2 H2 Hm H4 := ⟨g4.keep, g4.dom, fun b o e => by rw [hm1 b o e]; exact (s3.trans g4.mono) _ _ e, gm1, gm2⟩
    refine ha _ hk v Hm H4 (g12.trans gm) ok4 ?_
    refine Dq.bare_mono (fun b o e ho => ?_) y v hy hv
    cases q : Hi2 b with
    | some o' => rw [hm1 b o' q]; exact e
    | none =>
      cases q3 : Hi3 b with
      | none => rw [hm2 b q q3]; exact e
      | some o' =>
        obtain ⟨ws, ew⟩ := up b q o' q3
        rw [ew] at e
        exact absurd (Option.some.inj e).symm (ho ws)
end
end Un
end
section
/-! Un: targets; a comprehension. -/
namespace Un
open PySem PySem.Spec L2
section
variable {l : Lay} {x : KX} {K : PySem.W.Frag} {L : Loc} {Hi0 B Hs His Hi H Hi' H' : Hp} {σ : L2.St} {ρ : List SV} {f g h : List SV → KA → Prop} {Q : VK}
/-- a slot is set to a worth -/
theorem Rel.put (r : Rel K L Hi0 B Hi σ H ρ) {i : Nat} {v : Option V} {q : SV} (h : SvOk K L B Hi H v q) (ha : isOwn q = true → ∀ (j : Nat) p a, j ≠ i → ρ[j]? = some p → isOwn p = true → σ[j]? = some (some (V.ref a)) → v ≠ some (V.ref a)) :
    Rel K L Hi0 B Hi (σ.set i v) H (ρ.set i q) where
  g := r.g
  src := r.src
  srcB := r.srcB
  av0 := r.av0
  len := by rw [List.length_set, List.length_set]; exact r.len
  slot := fun j p e => by
    by_cases hj : i = j
    · subst hj
      by_cases hl : i < ρ.length
      · rw [List.getElem?_set_self hl] at e
        cases e
        exact ⟨v, List.getElem?_set_self (by rw [← r.len]; exact hl), h⟩
      · rw [List.getElem?_eq_none (by simpa using hl)] at e
        cases e
    · rw [List.getElem?_set_ne hj] at e ⊢
      exact r.slot j p e
  apart := fun j k p q' a hjk e1 e2 o1 o2 s1 s2 => by
    by_cases hj : i = j
    · subst hj
      have hk : ¬ i = k := hjk
      rw [List.getElem?_set_ne hk] at e2 s2
      by_cases hl : i < ρ.length
      · rw [List.getElem?_set_self hl] at e1
        cases e1
        rw [List.getElem?_set_self (by rw [← r.len]; exact hl)] at s1
        exact ha o1 k q' a (fun z => hk z.symm) e2 o2 s2 (Option.some.inj s1)
      · rw [List.getElem?_eq_none (by simpa using hl)] at e1
        cases e1
    · rw [List.getElem?_set_ne hj] at e1 s1
      by_cases hk : i = k
      · subst hk
        by_cases hl : i < ρ.length
        · rw [List.getElem?_set_self hl] at e2
          cases e2
          rw [List.getElem?_set_self (by rw [← r.len]; exact hl)] at s2
          exact ha o2 j p a hjk e1 o1 s1 (Option.some.inj s2)
        · rw [List.getElem?_eq_none (by simpa using hl)] at e2
          cases e2
      · rw [List.getElem?_set_ne hk] at e2 s2
        exact r.apart j k p q' a hjk e1 e2 o1 o2 s1 s2
theorem Rel.putD (r : Rel K L Hi0 B Hi σ H ρ) (i : Nat) {v : V} {d : PyData} (h : Dq K Hi v d) : Rel K L Hi0 B Hi (σ.set i (some v)) H (ρ.set i (.d d)) := r.put ⟨v, rfl, h⟩ fun z => nomatch z
theorem Rel.putUn (r : Rel K L Hi0 B Hi σ H ρ) (i : Nat) (v : Option V) : Rel K L Hi0 B Hi (σ.set i v) H (ρ.set i .un) := r.put trivial fun z => nomatch z
theorem Rel.wipe (r : Rel K L Hi0 B Hi σ H ρ) : ∀ own : List Nat, Rel K L Hi0 B Hi (wipe σ own) H (wipeS ρ own)
  | [] => r
  | i :: own => (Rel.wipe r own).putUn i none
/-- several names from several values -/
def gNames : List Nat → TGs
  | [] => gNil
  | i :: is => gCons (gName i) (gNames is)
theorem names_ok : ∀ {is : List Nat} {vs : List V} {xs : List PyData} {σ : L2.St} {ρ ρ1 : List SV} {Qg : L2.St → Hp → Prop}, Rel K L Hi0 B Hi σ H ρ → DqAll K Hi vs xs → setD is xs ρ = some ρ1 →
    (∀ σ1, Rel K L Hi0 B Hi σ1 H ρ1 → (∀ own : List Nat, (∀ i ∈ is, i ∈ own) → wipe σ1 own = wipe σ own) → Qg σ1 H) → vs.length = is.length ∧ gNames is vs σ H Qg
  | [], _, [], σ, ρ, ρ1, Qg, r, d, e, q => by
    cases e
    cases d
    exact ⟨rfl, rfl, q σ r fun _ _ => rfl⟩
  | [], _, _ :: _, _, _, _, _, _, _, e, _ => nomatch e
  | _ :: _, _, [], _, _, _, _, _, _, e, _ => nomatch e
  | i :: is, _, x :: xs, σ, ρ, ρ1, Qg, r, d, e, q => by
    cases d with
    | cons d1 d2 =>
      rename_i v vs
      have e' : setD is xs (ρ.set i (.d x)) = some ρ1 := e
      have h := names_ok (Qg := Qg) (r.putD i d1) d2 e' fun σ1 r1 w1 => q σ1 r1 fun own ho => by
        rw [w1 own fun j hj => ho j (by simp [hj])]
        -- a set slot of one's own is forgotten
        have key : ∀ own : List Nat, i ∈ own → wipe (σ.set i (some v)) own = wipe σ own := fun own => by
          induction own with
          | nil => intro z; cases z
          | cons k own ih =>
            intro hm
            show (wipe (σ.set i (some v)) own).set k none = (wipe σ own).set k none
            by_cases hk : i ∈ own
            · rw [ih hk]
            · have hik : i = k := by
                rcases List.mem_cons.mp hm with z | z
                · exact z
                · exact absurd z hk
              subst hik
              have nc : ∀ own : List Nat, wipe (σ.set i (some v)) own = (wipe σ own).set i ((wipe (σ.set i (some v)) own)[i]?.getD none) ∨ wipe (σ.set i (some v)) own = wipe σ own := fun own => by
                induction own with
                | nil =>
                  left
                  show σ.set i (some v) = σ.set i _
                  by_cases hl : i < σ.length
                  · rw [show wipe (σ.set i (some v)) [] = σ.set i (some v) from rfl, List.getElem?_set_self hl] <;> rfl
                  · rw [List.set_eq_of_length_le (by omega), List.set_eq_of_length_le (by omega)]
                | cons k own ih =>
                  show (wipe (σ.set i (some v)) own).set k none = ((wipe σ own).set k none).set i (((wipe (σ.set i (some v)) own).set k none)[i]?.getD none) ∨ (wipe (σ.set i (some v)) own).set k none = (wipe σ own).set k none
                  by_cases hki : k = i
                  · subst hki
                    right
                    rcases ih with ih | ih
                    · rw [ih, List.set_set]
                    · rw [ih]
                  · rw [List.getElem?_set_ne hki]
                    rcases ih with ih | ih
                    · left
                      conv => lhs; rw [ih]
                      rw [List.set_comm _ _ (Ne.symm hki)]
                    · right
                      rw [ih]
              rcases nc own with z | z
              · rw [z, List.set_set]
              · rw [z]
        exact key own (ho i (by simp))
      exact ⟨by rw [List.length_cons, List.length_cons, h.1], v, vs, rfl, h.2⟩
/-- (a, b, ..) = a tuple or a list of that length -/
def gSq (K : PySem.W.Frag) (n : Nat) (t : TGs) : TG := fun v σ H Q => ∃ a xs, v = .ref a ∧ (SqT K H a xs ∨ SqL K H a xs) ∧ xs.length = n ∧ t xs σ H Q
theorem pg_seq {X : Cx} {pos : Pos} {es : List Expr} {k : Nat} {t : TGs} {n : Nat} (hc : X.calm = true) (h : PGs X es t)
    (hn : (assignEach es X.env).length = n := by rfl) (hst : (assignEach es X.env).findIdx? (·.1) = none := by rfl) : PG X (.Tuple es k pos) (gSq X.K n t) := by
  refine ⟨fun pins s σ H v u Q I r hw => ?_⟩
  obtain ⟨a, xs, e, hq | hq, hl, hw⟩ := hw
  · exact (pg_tup hc h hn hst).run pins s σ H v u Q I r ⟨a, xs, e, hq, hl, hw⟩
  · exact (pg_lst hc h hn hst).run pins s σ H v u Q I r ⟨a, xs, e, hq, hl, hw⟩
def gTg (K : PySem.W.Frag) : Tg → TG
  | .nm i => gName i
  | .tp is => gSq K is.length (gNames is)
def tgIn : Tg → List Nat → Prop
  | .nm i, own => i ∈ own
  | .tp is, own => ∀ i ∈ is, i ∈ own
theorem tg_ok {tg : Tg} {v : V} {y : PyData} {ρ1 : List SV} {Qg : L2.St → Hp → Prop} (r : Rel K L Hi0 B Hi σ H ρ) (d : Dq K Hi v y) (e : tgt tg y ρ = some ρ1)
    (q : ∀ σ1, Rel K L Hi0 B Hi σ1 H ρ1 → (∀ own, tgIn tg own → wipe σ1 own = wipe σ own) → Qg σ1 H) : gTg K tg v σ H Qg := by
  cases tg with
  | nm i =>
    cases e
    refine q _ (r.putD i d) fun own ho => ?_
    have h := names_ok (is := [i]) (vs := [v]) (xs := [y]) (Qg := fun σ1 _ => wipe σ1 own = wipe σ own) r (.cons d .nil) rfl fun σ1 r1 w1 => w1 own fun j hj => by
      obtain rfl : j = i := by simpa using hj
      exact ho
    obtain ⟨_, v', vs', e, h⟩ := h
    cases e
    exact h.2
  | tp is =>
    cases y with
    | tuple xs =>
      have e' : setD is xs ρ = some ρ1 := e
      cases d with
      | tup h1 h2 =>
        obtain ⟨a, b⟩ := names_ok r h2 e' q
        exact ⟨_, _, rfl, .inl (sqT_mono r.g.sub h1), a, b⟩
    | list xs =>
      have e' : setD is xs ρ = some ρ1 := e
      cases d with
      | lst h1 h2 =>
        obtain ⟨a, b⟩ := names_ok r h2 e' q
        exact ⟨_, _, rfl, .inr (SqL.of (r.g.sub _ _ h1)), a, b⟩
    | _ => cases e
/-- a comprehension's tests -/
def tTs (l : Lay) : Option (List SV → (Bool → Prop) → Prop) → TT
  | none => tYes
  | some t => tT l.mute noX t
theorem Stt.mute (r : Rel l.K L Hi0 B Hi σ H ρ) (k : l.κ L) : Stt l.mute noX L Hi0 B Hi σ H ρ := ⟨k, r, fun _ _ _ _ _ _ z => z.elim⟩
theorem rd_lc {wi : List SV → (List PyData → Prop) → Prop} {tg : Tg} {c : Option (List SV → (Bool → Prop) → Prop)} {own : List Nat} (hown : tgIn tg own)
    (hw : tV l x (fun ρ k => wi ρ fun xs => cmpW tg c f (wipeS ρ own) xs [] fun ys => k (.new ys)) σ H Q) : tLc (tI l x wi) (gTg l.K tg) (tTs l c) (tV l.mute noX f) own σ H Q := by
  obtain ⟨L, Hi0, B, Hi, ρ, k, s, hf, ha⟩ := hw
  refine ⟨L, Hi0, B, Hi, ρ, _, s, hf, fun xs hxs J Hi1 H1 g1 ok1 it D hD => ?_⟩
  have hDf : ¬ L.foot D := Loc.nofoot ok1 D hD
  refine ⟨fun i m H' => m = xs.length - i ∧ i ≤ xs.length ∧ ∃ Hi' acc vs, Grow L Hi1 H1 Hi' H' ∧ L.ok H' ∧ H' D = some (.lst vs) ∧ DqAll l.K Hi' vs acc ∧ Hi' D = none ∧ cmpW tg c f (wipeS ρ own) (xs.drop i) acc fun ys => k (.new ys),
    ⟨_, rfl, Nat.zero_le _, Hi1, [], [], Grow.laid' g1.sub hD, L.okNew ok1 hD, upd_same, .nil, g1.sub.free hD, hxs⟩, ?_⟩
  rintro i m H' ⟨rfl, hi, Hi', acc, vs, g2, ok2, hL, dl, hn, hc⟩
  have g12 := g1.trans g2
  rcases Nat.lt_or_ge i xs.length with hlt | hge
  · refine .inr ⟨it.go i Hi' H' g2.mono g2.sub g2.dom ok2 hlt, fun H2 => ∃ Hi2 acc2 vs2, Grow L Hi1 H1 Hi2 H2 ∧ L.ok H2 ∧ H2 D = some (.lst vs2) ∧ DqAll l.K Hi2 vs2 acc2 ∧ Hi2 D = none ∧ cmpW tg c f (wipeS ρ own) (xs.drop (i + 1)) acc2 fun ys => k (.new ys),
      fun H2 h2 => ⟨xs.length - (i + 1), by omega, rfl, hlt, h2⟩, fun y H2 hy => ?_⟩
    have hget : xs[i]? = some xs[i] := List.getElem?_eq_getElem hlt
    obtain ⟨Hi2, g3, ok3, dy⟩ := it.yld i Hi' H' xs[i] y H2 g2.mono g2.sub g2.dom ok2 hget hy
    rw [List.drop_eq_getElem_cons hlt] at hc
    obtain ⟨ρ1, e1, hc⟩ := hc
    have r0 : Rel l.K L Hi0 B Hi2 (wipe σ own) H2 (wipeS ρ own) := (s.r.step (g12.trans g3) ok3).wipe own
    refine tg_ok r0 dy e1 fun σ1 r1 w1 => ⟨?_, ?_⟩
    · rw [w1 own hown]
      -- forgetting twice is forgetting once
      have idem : ∀ own : List Nat, ∀ τ : L2.St, wipe (wipe τ own) own = wipe τ own := fun own => by
        have one : ∀ (own : List Nat) (τ : L2.St) (k : Nat), k ∈ own → (wipe τ own).set k none = wipe τ own := fun own => by
          induction own with
          | nil => intro τ k z; cases z
          | cons j own ih =>
            intro τ k hk
            show ((wipe τ own).set j none).set k none = (wipe τ own).set j none
            by_cases hjk : j = k
            · rw [hjk, List.set_set]
            · have hk' : k ∈ own := by
                rcases List.mem_cons.mp hk with z | z
                · exact absurd z.symm hjk
                · exact z
              rw [List.set_comm _ _ hjk, ih τ k hk']
        intro τ
        have sub : ∀ own' : List Nat, (∀ k ∈ own', k ∈ own) → wipe (wipe τ own) own' = wipe τ own := fun own' => by
          induction own' with
          | nil => intro _; rfl
          | cons k own' ih =>
            intro hs
            show (wipe (wipe τ own) own').set k none = wipe τ own
            rw [ih fun z hz => hs z (by simp [hz])]
            exact one own τ k (hs k (by simp))
        exact sub own fun _ z => z
      exact idem own σ
    · have hD2 : H2 D = some (.lst vs) := g3.keep D _ hL hDf
      have hn2 : Hi2 D = none := by
        cases q : Hi2 D with
        | none => rfl
        | some o =>
          have := g3.fr D (by rw [q]; simp) hn
          rw [hL] at this
          cases this
      have dl2 := DqAll.mono g3.mono _ _ dl
      -- the worth of a turn
      have turn : ∀ Hi3 H3, Grow L Hi2 H2 Hi3 H3 → L.ok H3 → f ρ1 (fun a => ∃ y, a.emb? = some y ∧ acc.length < sizeLine ∧ cmpW tg c f (wipeS ρ own) (xs.drop (i + 1)) (acc ++ [y]) fun ys => k (.new ys)) →
          tV l.mute noX f σ1 H3 fun y H4 => ∃ acc', H4 D = some (.lst acc') ∧ acc'.length < sizeLine ∧ ∃ Hi2 acc2 vs2, Grow L Hi1 H1 Hi2 (L2.upd H4 D (.lst (acc' ++ [y]))) ∧ L.ok (L2.upd H4 D (.lst (acc' ++ [y]))) ∧ (L2.upd H4 D (.lst (acc' ++ [y]))) D = some (.lst vs2) ∧ DqAll l.K Hi2 vs2 acc2 ∧ Hi2 D = none ∧ cmpW tg c f (wipeS ρ own) (xs.drop (i + 1)) acc2 fun ys => k (.new ys) := fun Hi3 H3 g4 ok4 hf => by
        refine ⟨L, Hi0, B, Hi3, ρ1, _, Stt.mute (r1.step g4 ok4) s.k, hf, fun av hav v Hi4 H4 g5 ok5 hv => ?_⟩
        obtain ⟨y, ey, hz, hc'⟩ := hav
        obtain ⟨Hi5, g6, s6, d6, k6⟩ := hv.fix g5 ey
        have hD3 : H3 D = some (.lst vs) := g4.keep D _ hD2 hDf
        have hD4 : H4 D = some (.lst vs) := g5.keep D _ hD3 hDf
        have hn3 : Hi3 D = none := by
          cases q : Hi3 D with
          | none => rfl
          | some o =>
            have := g4.fr D (by rw [q]; simp) hn2
            rw [hD2] at this
            cases this
        have hn4 : Hi4 D = none := by
          cases q : Hi4 D with
          | none => rfl
          | some o =>
            have := g5.fr D (by rw [q]; simp) hn3
            rw [hD3] at this
            cases this
        have hn5 : Hi5 D = none := k6 D hn4 fun hnew z => by
          subst z
          cases av with
          | new zs =>
            obtain ⟨a, ws, e, h1, h2⟩ := hv
            cases e
            rw [hD3] at h1
            cases h1
          | _ => cases hnew
        have gg : Grow L Hi1 H1 Hi5 H4 := (g2.trans (g3.trans g4)).trans g6
        refine ⟨vs, hD4, by rw [dl.len]; exact hz, Hi5, acc ++ [y], vs ++ [v], gg.wrote hD hn5, L.okUpd ok5 hDf, upd_same, (DqAll.mono (g4.mono.trans g6.mono) _ _ dl2).snoc d6, hn5, hc'⟩
      cases c with
      | none =>
        show tV l.mute noX f σ1 H2 _
        exact turn Hi2 H2 (Grow.refl g3.sub) ok3 hc
      | some t =>
        show tT l.mute noX t σ1 H2 _
        refine ⟨L, Hi0, B, Hi2, ρ1, _, Stt.mute r1 s.k, hc, fun b hb Hi3 H3 g4 ok4 => ?_⟩
        cases b with
        | true => exact turn Hi3 H3 g4 ok4 hb
        | false =>
          have hD3 : H3 D = some (.lst vs) := g4.keep D _ hD2 hDf
          have hn3 : Hi3 D = none := by
            cases q : Hi3 D with
            | none => rfl
            | some o =>
              have := g4.fr D (by rw [q]; simp) hn2
              rw [hD2] at this
              cases this
          exact ⟨Hi3, acc, vs, g2.trans (g3.trans g4), ok4, hD3, DqAll.mono g4.mono _ _ dl2, hn3, hb⟩
  · have ei : i = xs.length := by omega
    subst ei
    rw [List.drop_length] at hc
    exact .inl ⟨it.stop _ Hi' H' g2.mono g2.sub g2.dom ok2 rfl, ha _ hc _ Hi' H' g12 ok2 ⟨D, vs, rfl, g1.dom D hD, hn, hL, dl⟩⟩
end
end Un
end
section
/-! Un: a text's phrase that the checker takes does what the pure language says. -/
namespace Un
open PySem PySem.Spec L2

structure Fit (X : Cx) (nc : Nc) (sc : Scope) (l : Lay) (fe : FE) : Prop where
  N : X.N = nc.N
  nd : X.N.Nodup
  sc : X.env.scope = sc
  K : X.K = l.K
  calm : X.calm = true
  room : RoomG nc.k X.A
  tk : Takes X l.W
  mgn : ∀ x ∈ bltNames, X.mg x = none
  gcd : nc.gcd = true → X.mg "gcd" = some (.builtin "math.gcd")
  pats : ∀ p ∈ nc.pats, CallOk X.prog X.w X.mg X.base l nc.k (fe p.f) p
  csts : ∀ c ∈ nc.csts, ∃ u v, X.mg c.1 = some u ∧ RelV v u ∧ ∀ H, Dq l.K H v c.2
section
variable {X : Cx} {nc : Nc} {sc : Scope} {l : Lay} {fe : FE}
theorem Fit.units (F : Fit X nc sc l fe) : X.A.units + 128 < cLine := by
  have := F.room.r.un
  omega
theorem Fit.units2 (F : Fit X nc sc l fe) : X.A.units + 64 < cLine := by
  have := F.room.r.un
  omega
theorem Fit.gl (F : Fit X nc sc l fe) {x : Str} (h : glB sc x = true) : Gl X x := by
  show X.env.scope.names.lookup x = _
  rw [F.sc]
  exact glB_eq h
theorem Fit.vis (F : Fit X nc sc l fe) {x : Str} (h : visB sc x = true) : Vis X.env.scope x := by
  rw [F.sc]
  exact visB_eq h
theorem takes_no {X : Cx} : Takes X fun _ _ _ _ => False := fun u s' ⟨a, B, sI, pins, σ, H, cls, d, e, I, nb, up, sky, na, os, ag, w⟩ => w.elim
theorem look_map (g : Str → NameKind → NameKind) (x : Str) : ∀ l : List (Str × NameKind), (l.map fun p => (p.1, g p.1 p.2)).lookup x = (l.lookup x).map (g x)
  | [] => rfl
  | (n, k) :: r => by
    rw [List.map_cons, List.lookup_cons, List.lookup_cons]
    cases h : x == n with
    | true =>
      have e : x = n := by simpa using h
      subst e
      rfl
    | false => exact look_map g x r
theorem relS_look (scope sc : Scope) (x : Str) : (relS scope sc).names.lookup x = (scope.names.lookup x).map fun k => if (k == .free && sc.kind == .function && sc.names.lookup x == some .cell) then .cell else k := by
  have e : (relS scope sc).names = scope.names.map fun p => (p.1, (fun (n : Str) (k : NameKind) => if (k == .free && sc.kind == .function && sc.names.lookup n == some .cell) then .cell else k) p.1 p.2) := by
    unfold relS
    show scope.names.map _ = _
    congr 1
    funext p
    obtain ⟨n, k⟩ := p
    show (if (k == .free && sc.kind == .function && sc.names.lookup n == some .cell) = true then (n, NameKind.cell) else (n, k)) = (n, if (k == .free && sc.kind == .function && sc.names.lookup n == some .cell) = true then NameKind.cell else k)
    split <;> rfl
  rw [e]
  exact look_map (fun (n : Str) (k : NameKind) => if (k == .free && sc.kind == .function && sc.names.lookup n == some .cell) then .cell else k) x scope.names
/-- a name that is the block's own -/
def Own (X : Cx) (x : Str) : Prop := L2.Loc X.env.scope x ∧ (X.fn x = true ∨ X.env.scope.names.lookup x = some .local)
theorem Fit.blk (F : Fit X nc sc l fe) (s : Shared) (H : Hp) (scope : Scope) (cl : List (Str × Addr)) (C : Addr) (fp : List Addr) : Fit (X.blk s H scope (compEnvC scope cl C X.env) fp) nc (relS scope sc) l.mute fe where
  N := F.N
  nd := F.nd
  sc := by rw [← F.sc] <;> rfl
  K := F.K
  calm := F.calm
  room := F.room
  tk := takes_no
  mgn := F.mgn
  gcd := F.gcd
  pats := fun p hp => by
    obtain ⟨a, fd, ps, h1, h2, h3, h4, h5⟩ := (F.pats p hp).ex
    exact ⟨a, fd, ps, h1, h2, h3, h4, h5⟩
  csts := F.csts
theorem Fit.blkOwn (F : Fit X nc sc l fe) (s : Shared) (H : Hp) (scope : Scope) (cl : List (Str × Addr)) (C : Addr) (fp : List Addr) {x : Str} (h : locB scope x = true) : Own (X.blk s H scope (compEnvC scope cl C X.env) fp) x := by
  have e : (X.blk s H scope (compEnvC scope cl C X.env) fp).env.scope.names.lookup x = (scope.names.lookup x).map fun k => if (k == .free && sc.kind == .function && sc.names.lookup x == some .cell) then .cell else k := by
    rw [← relS_look scope sc x, ← F.sc] <;> rfl
  rcases locB_eq h with q | q
  · have e2 := e
    rw [q] at e2
    exact ⟨.inl e2, .inr e2⟩
  · have e2 := e
    rw [q] at e2
    refine ⟨.inr e2, .inl ?_⟩
    show (scope.names.lookup x == some NameKind.cell) = true
    rw [q] <;> rfl
/-- a target -/
theorem tgB_ok (hN : X.N = nc.N) (nd : X.N.Nodup) (hK : X.K = l.K) (hc : X.calm = true) {sc : Scope} (own : ∀ x, locB sc x = true → Own X x) {tg : Tg} {e : Expr} (h : tgB nc sc tg e = true) : PG X e (gTg l.K tg) := by
  have one : ∀ {i : Nat} {e : Expr}, (match asName e with
      | some x => ownB nc sc i x
      | none => false) = true → ∃ x p, e = .Name x p ∧ PG X e (gName i) := fun {i e} h => by
    split at h
    · rename_i x hx
      obtain ⟨p, rfl⟩ := asName_eq hx
      unfold ownB at h
      rw [Bool.and_eq_true, decide_eq_true_eq] at h
      have o := own x h.2
      exact ⟨x, p, rfl, pg_name nd (by rw [hN]; exact h.1) o.1 o.2⟩
    · cases h
  cases tg with
  | nm i =>
    obtain ⟨x, p, rfl, hp⟩ := one (i := i) h
    exact hp
  | tp is =>
    have h : (match asTup e with
      | some es => (es.length == is.length) && (is.zip es).all (fun p => match asName p.2 with
        | some x => ownB nc sc p.1 x
        | none => false)
      | none => false) = true := h
    cases he : asTup e with
    | none =>
      rw [he] at h
      cases h
    | some es =>
      rw [he] at h
      obtain ⟨k, p, rfl⟩ := asTup_eq he
      have h : ((es.length == is.length) && (is.zip es).all (fun p => match asName p.2 with
        | some x => ownB nc sc p.1 x
        | none => false)) = true := h
      rw [Bool.and_eq_true] at h
      have hlen : es.length = is.length := by simpa using h.1
      have names : ∀ {is : List Nat} {es : List Expr}, es.length = is.length → ((is.zip es).all fun p => match asName p.2 with
          | some x => ownB nc sc p.1 x
          | none => false) = true → PGs X es (gNames is) ∧ (assignEach es X.env).length = is.length ∧ (assignEach es X.env).findIdx? (·.1) = none := fun {is} => by
        induction is with
        | nil =>
          intro es hl _
          cases es with
          | nil => exact ⟨pgs_nil, rfl, rfl⟩
          | cons _ _ => cases hl
        | cons i is ih =>
          intro es hl ha
          cases es with
          | nil => cases hl
          | cons e es =>
            rw [List.zip_cons_cons, List.all_cons, Bool.and_eq_true] at ha
            obtain ⟨x, p, rfl, hp⟩ := one (i := i) ha.1
            obtain ⟨h1, h2, h3⟩ := ih (es := es) (by simpa using hl) ha.2
            refine ⟨pgs_cons hp h1 rfl, ?_, ?_⟩
            · show (assignEach es X.env).length + 1 = is.length + 1
              rw [h2]
            · show ((false, _) :: assignEach es X.env).findIdx? (·.1) = none
              rw [List.findIdx?_cons]
              simp only [Bool.false_eq_true, if_false]
              rw [h3] <;> rfl
      obtain ⟨h1, h2, h3⟩ := names hlen h.2
      rw [← hK]
      exact pg_seq hc h1 h2 h3

/-- what the checker's answers mean -/
structure Snd (X : Cx) (l : Lay) (x : KX) (d : D4) (c : Ck) (sc : Scope) : Prop where
  v : ∀ e, c.v sc e = true → PE X e (tV l x d.v)
  t : ∀ e, c.t sc e = true → PT X e (tT l x d.t)
  a : ∀ es, c.a sc es = true → PA X es (tL l x d.l)
  k : ∀ ks, c.k sc ks = true → PK X ks (tL l x d.l)
  i : ∀ tg e, c.i sc tg e = true → PI X tg e (tI l x d.i) ∧ notSet e = true
  o : ∀ e, c.o sc e = true → PO X e (tO l x d.o)
theorem _root_.L2.PE.imq {X : Cx} {e : Expr} {t t' : TE} (h : PE X e t) (i : ∀ σ H Q, t' σ H Q → t σ H Q) : PE X e t' := ⟨fun pins s σ H Q I q => h.run pins s σ H Q I (i _ _ _ q)⟩
theorem _root_.L2.PT.imq {X : Cx} {e : Expr} {t t' : TT} (h : PT X e t) (i : ∀ σ H Q, t' σ H Q → t σ H Q) : PT X e t' := ⟨fun pins s σ H Q I q => h.run pins s σ H Q I (i _ _ _ q)⟩
theorem _root_.L2.PW.imq {X : Cx} {e : Expr} {t t' : TT} (h : PW X e t) (i : ∀ σ H Q, t' σ H Q → t σ H Q) : PW X e t' := ⟨fun w pins s σ H Q I q => h.run w pins s σ H Q I (i _ _ _ q)⟩
theorem _root_.L2.PA.imq {X : Cx} {e : List Expr} {t t' : TA} (h : PA X e t) (i : ∀ σ H Q, t' σ H Q → t σ H Q) : PA X e t' := ⟨fun p pins s σ H Q I q => h.run p pins s σ H Q I (i _ _ _ q)⟩
theorem _root_.L2.PK.imq {X : Cx} {e : List Keyword} {t t' : TA} (h : PK X e t) (i : ∀ σ H Q, t' σ H Q → t σ H Q) : PK X e t' := ⟨fun p pins s σ H Q I q => h.run p pins s σ H Q I (i _ _ _ q)⟩
theorem _root_.L2.PI.imq {X : Cx} {tg e : Expr} {t t' : TI} (h : PI X tg e t) (i : ∀ σ H Q, t' σ H Q → t σ H Q) : PI X tg e t' := ⟨fun pins s σ H Q I q => h.run pins s σ H Q I (i _ _ _ q)⟩
theorem _root_.L2.PO.imq {X : Cx} {e : Option Expr} {t t' : TO} (h : PO X e t) (i : ∀ σ H Q, t' σ H Q → t σ H Q) : PO X e t' := ⟨fun pins s σ H Q I q => h.run pins s σ H Q I (i _ _ _ q)⟩
/-- by values alone -/
theorem Snd.ofV {x : KX} {d : D4} {c : Ck} {sc : Scope} {v : Scope → Expr → Bool} (hc : c = Ck.ofV v) (F : X.K = l.K) (hd : d.t = (fun ρ k => d.v ρ fun a => truthW a k) ∧ d.i = (fun ρ k => d.v ρ fun a => seqW a k) ∧ d.o = (fun ρ k => d.v ρ fun a => Un.intW a fun n => k (some n)))
    (h : ∀ e, v sc e = true → PE X e (tV l x d.v)) : Snd X l x d c sc := by
  subst hc
  refine ⟨h, fun e he => ?_, fun es he => (nomatch he), fun ks he => (nomatch he), fun tg e he => ?_, fun e he => ?_⟩
  · have he : (plainT e && v sc e) = true := he
    rw [Bool.and_eq_true] at he
    rw [hd.1]
    refine (pt_truth (h e he.2) (plainT_eq he.1 X.env)).imq fun σ H Q q => ?_
    rw [F]
    exact rd_truth q
  · have he : (notSet e && v sc e) = true := he
    rw [Bool.and_eq_true] at he
    rw [hd.2.1]
    refine ⟨(pi_seqA (h e he.2)).imq fun σ H R q => ?_, he.1⟩
    rw [F]
    exact rd_seq q
  · have he : oB (v sc) e = true := he
    cases e with
    | none => cases he
    | some e =>
      rw [hd.2.2]
      exact (po_some (h e he)).imq fun σ H Q q => rd_part q
theorem Snd.ofI {x : KX} {d : D4} {c : Ck} {sc : Scope} {i : Scope → Expr → Expr → Bool} (hc : c = Ck.ofI i) (h : ∀ tg e, i sc tg e = true → PI X tg e (tI l x d.i)) : Snd X l x d c sc := by
  subst hc
  refine ⟨fun e he => (nomatch he), fun e he => (nomatch he), fun es he => (nomatch he), fun ks he => (nomatch he), fun tg e he => ?_, fun e he => (nomatch he)⟩
  have he : (notSet e && i sc tg e) = true := he
  rw [Bool.and_eq_true] at he
  exact ⟨h tg e he.2, he.1⟩
theorem pw_of {op : BoolOp} {es : List Expr} {p : Pos} {t : TT} (h : PT X (.BoolOp op es p) t) : PW X (.BoolOp op es p) t := ⟨fun w pins s σ H Q I q => h.run pins s σ H Q I q⟩
/-- f(e): the call of one argument -/
theorem callB1_ok {nm : Str} {va : Expr → Bool} {e : Expr} (h : callB1 nc sc nm va e = true) : ∃ a p q, e = .Call (.Name nm p) [a] [] q ∧ glB sc nm = true ∧ notStar a = true ∧ va a = true := by
  unfold callB1 at h
  split at h
  · rename_i x a hx
    obtain ⟨p, q, rfl⟩ := asCall_eq hx
    simp only [Bool.and_eq_true, decide_eq_true_eq] at h
    obtain ⟨⟨⟨rfl, h2⟩, h3⟩, h4⟩ := h
    exact ⟨a, p, q, rfl, h2, h3, h4⟩
  · cases h
theorem isB_ok {ty : Str} {va : Expr → Bool} {e : Expr} (h : isB nc sc ty va e = true) : ∃ a p q r, e = .Call (.Name "isinstance" p) [a, .Name ty r] [] q ∧ glB sc "isinstance" = true ∧ glB sc ty = true ∧ notStar a = true ∧ va a = true := by
  unfold isB at h
  split at h
  · rename_i x a t hx
    obtain ⟨p, q, rfl⟩ := asCall_eq hx
    simp only [Bool.and_eq_true, decide_eq_true_eq] at h
    obtain ⟨⟨⟨⟨⟨rfl, h2⟩, h3⟩, h4⟩, h5⟩, h6⟩ := h
    obtain ⟨r, rfl⟩ := asName_eq h5
    exact ⟨a, p, q, r, rfl, h2, h6, h3, h4⟩
  · cases h
theorem noneB_ok {op : CmpOp} {va : Expr → Bool} {e : Expr} (h : noneB op va e = true) : ∃ a k p q, e = .Compare a [op] [.Constant .none k p] q ∧ va a = true := by
  unfold noneB at h
  split at h
  · rename_i a op' b hx
    obtain ⟨q, rfl⟩ := asCmp_eq hx
    simp only [Bool.and_eq_true, decide_eq_true_eq] at h
    obtain ⟨⟨rfl, h2⟩, h3⟩ := h
    obtain ⟨k, p, rfl⟩ := isNone_eq h2
    exact ⟨a, k, p, q, rfl, h3⟩
  · cases h
end
end Un
end
section
/-! Un: every phrase. -/
namespace Un
open PySem PySem.Spec L2
section
variable {nc : Nc} {fe : FE}
theorem boolB_ok {op : BoolOp} {ta tb : Expr → Bool} {e : Expr} (h : boolB op ta tb e = true) : ∃ a b r p, e = .BoolOp op (a :: b :: r) p ∧ ta a = true ∧ (match r with
    | [] => tb b
    | _ :: _ => tb (.BoolOp op (b :: r) p)) = true := by
  unfold boolB at h
  split at h
  · rename_i op' a b r p hx
    have := asBool_eq hx
    subst this
    simp only [Bool.and_eq_true, decide_eq_true_eq] at h
    obtain ⟨⟨rfl, h2⟩, h3⟩ := h
    exact ⟨a, b, r, p, rfl, h2, h3⟩
  · cases h
theorem ca1 {X : Cx} {a : Expr} {t : TE} (h : PE X a t) (hs : notStar a = true) : PA X [a] (tCons t tNil) := pa_cons h pa_nil (star_cons hs [] X.env)
theorem blt_in {X : Cx} {sc : Scope} {l : Lay} (F : Fit X nc sc l fe) {x : Str} (h : bltNames.contains x = true) : X.mg x = none := F.mgn x (by simpa using h)
theorem snd_un {X : Cx} {sc : Scope} {l : Lay} {x : KX} (F : Fit X nc sc l fe) (o : O1) {f : List SV → KA → Prop} {va : Expr → Bool} (h : ∀ e, va e = true → PE X e (tV l x f)) (e : Expr) (he : unB nc sc o va e = true) :
    PE X e (tV l x fun ρ k => f ρ fun p => w1 o p k) := by
  have call : ∀ {nm : Str} {id : String}, callB1 nc sc nm va e = true → bltNames.contains nm = true → bootBuiltins nm = some (.builtin id) → nm ≠ "__name__" → (nm == ("__debug__" : Str)) = false → CallR X (.builtin id) (rC1 X.K (w1 o)) → PE X e (tV l x fun ρ k => f ρ fun p => w1 o p k) := fun {nm id} hb h1 h2 h3 h4 hr => by
    obtain ⟨a, p, q, rfl, hg, hs, hv⟩ := callB1_ok hb
    refine (pe_callB hr (F.gl hg) (blt_in F h1) h2 (ca1 (h a hv) hs) h3 h4 (star_cons hs [] X.env) rfl).imq fun σ H Q q => ?_
    rw [F.K]
    exact rd_call1 q
  have callT : ∀ {nm : Str} {T : String}, callB1 nc sc nm va e = true → bltNames.contains nm = true → bootBuiltins nm = some (.type T) → nm ≠ "__name__" → (nm == ("__debug__" : Str)) = false → CallR X (.type T) (rC1 X.K (w1 o)) → PE X e (tV l x fun ρ k => f ρ fun p => w1 o p k) := fun {nm T} hb h1 h2 h3 h4 hr => by
    obtain ⟨a, p, q, rfl, hg, hs, hv⟩ := callB1_ok hb
    refine (pe_callTy hr (F.gl hg) (blt_in F h1) h2 (ca1 (h a hv) hs) h3 h4 (star_cons hs [] X.env) rfl).imq fun σ H Q q => ?_
    rw [F.K]
    exact rd_call1 q
  have isi : ∀ {ty : Str} {T : String}, isB nc sc ty va e = true → bltNames.contains ty = true → bootBuiltins ty = some (.type T) → ty ≠ "__name__" → (ty == ("__debug__" : Str)) = false → CallR X (.builtin "isinstance") (rIs X.K T (w1 o)) → PE X e (tV l x fun ρ k => f ρ fun p => w1 o p k) := fun {ty T} hb h1 h2 h3 h4 hr => by
    obtain ⟨a, p, q, r, rfl, hg, hg2, hs, hv⟩ := isB_ok hb
    refine (pe_callB hr (F.gl hg) (blt_in F (by decide +kernel)) (by decide +kernel) (pa_cons (h a hv) (ca1 (pe_bltn (v := .ty T) (F.gl hg2) (blt_in F h1) h2 rfl h3 h4) rfl) (star_cons hs _ X.env)) (by decide) (by decide) (star_cons hs _ X.env) (star_plain (by rfl))).imq fun σ H Q q => ?_
    rw [F.K]
    exact rd_is q
  cases o with
  | neg =>
    unfold unB at he
    simp only at he
    split at he
    · rename_i op a hx
      obtain ⟨p, rfl⟩ := asUn_eq hx
      simp only [Bool.and_eq_true, decide_eq_true_eq] at he
      obtain ⟨rfl, hv⟩ := he
      refine (pe_un un_w (h a hv)).imq fun σ H Q q => ?_
      rw [F.K]
      exact rd_un q
    · cases he
  | isN =>
    obtain ⟨a, k, p, q, rfl, hv⟩ := noneB_ok (op := .Is) he
    exact (pe_cmp (pc_isN (h a hv))).imq fun σ H Q q => rd_isN q
  | notN =>
    obtain ⟨a, k, p, q, rfl, hv⟩ := noneB_ok (op := .IsNot) he
    exact (pe_cmp (pc_notN (h a hv))).imq fun σ H Q q => rd_notN q
  | len => exact call he (by decide +kernel) (by decide +kernel) (by decide) (by decide) call_lenW
  | int => exact callT he (by decide +kernel) (by decide +kernel) (by decide) (by decide) call_intW
  | abs => exact call he (by decide +kernel) (by decide +kernel) (by decide) (by decide) call_absW
  | repr => exact call he (by decide +kernel) (by decide +kernel) (by decide) (by decide) (call_reprW F.room.g F.units)
  | list => exact callT he (by decide +kernel) (by decide +kernel) (by decide) (by decide) call_listW
  | tuple => exact callT he (by decide +kernel) (by decide +kernel) (by decide) (by decide) call_tupleW
  | all => exact call he (by decide +kernel) (by decide +kernel) (by decide) (by decide) (call_allW F.calm)
  | any => exact call he (by decide +kernel) (by decide +kernel) (by decide) (by decide) (call_anyW F.calm)
  | isInt => exact isi he (by decide +kernel) (by decide +kernel) (by decide) (by decide) (call_isW is_int)
  | isBool => exact isi he (by decide +kernel) (by decide +kernel) (by decide) (by decide) (call_isW is_bool)
  | isTuple => exact isi he (by decide +kernel) (by decide +kernel) (by decide) (by decide) (call_isW is_tuple)
  | isStr => exact isi he (by decide +kernel) (by decide +kernel) (by decide) (by decide) (call_isW is_str)
theorem snd_bin {X : Cx} {sc : Scope} {l : Lay} {x : KX} (F : Fit X nc sc l fe) (o : O2) {f g : List SV → KA → Prop} {va vb : Expr → Bool} (h : ∀ e, va e = true → PE X e (tV l x f)) (h' : ∀ e, vb e = true → PE X e (tV l x g)) (e : Expr) (he : binB o va vb e = true) :
    PE X e (tV l x fun ρ k => f ρ fun p => g ρ fun q => w2 o p q k) := by
  unfold binB at he
  split at he
  · rename_i op ho
    split at he
    · rename_i a op' b hx
      obtain ⟨p, rfl⟩ := asBin_eq hx
      simp only [Bool.and_eq_true, decide_eq_true_eq] at he
      obtain ⟨⟨rfl, h1⟩, h2⟩ := he
      refine (pe_op (op_bin ho) (h a h1) (h' b h2)).imq fun σ H Q q => ?_
      rw [F.K]
      exact rd_op q
    · cases he
  · rename_i ho
    split at he
    · rename_i op hc
      split at he
      · rename_i a op' b hx
        obtain ⟨p, rfl⟩ := asCmp_eq hx
        simp only [Bool.and_eq_true, decide_eq_true_eq] at he
        obtain ⟨⟨⟨rfl, h0⟩, h1⟩, h2⟩ := he
        refine (pe_cmpR (op_cmp F.units2 hc) (h a h1) (h' b h2) (notSet_in h0 _)).imq fun σ H Q q => ?_
        rw [F.K]
        exact rd_op q
      · cases he
    · rename_i hc
      split at he
      · rename_i a b hx
        obtain ⟨p, rfl⟩ := asSub_eq hx
        simp only [Bool.and_eq_true] at he
        obtain ⟨⟨h0, h1⟩, h2⟩ := he
        have hi : o = .idx := by cases o <;> first | rfl | (cases ho; done) | (cases hc; done)
        subst hi
        refine (pe_ix ix_w (h a h1) (h' b h2) (notSlc_eq h0)).imq fun σ H Q q => ?_
        rw [F.K]
        exact rd_op q
      · cases he
theorem snd_cmpT {X : Cx} {sc : Scope} {l : Lay} {x : KX} (F : Fit X nc sc l fe) (o : O2) {f g : List SV → KA → Prop} {va vb : Expr → Bool} (h : ∀ e, va e = true → PE X e (tV l x f)) (h' : ∀ e, vb e = true → PE X e (tV l x g)) (e : Expr) (he : cmpB o va vb e = true) :
    PT X e (tT l x fun ρ k => f ρ fun p => g ρ fun q => w2 o p q fun a => truthW a k) := by
  unfold cmpB at he
  split at he
  · rename_i op hc
    split at he
    · rename_i a op' b hx
      obtain ⟨p, rfl⟩ := asCmp_eq hx
      simp only [Bool.and_eq_true, decide_eq_true_eq] at he
      obtain ⟨⟨⟨rfl, h0⟩, h1⟩, h2⟩ := he
      refine (pt_cmpR (op_cmp F.units2 hc) (h a h1) (h' b h2) (notSet_in h0 _)).imq fun σ H Q q => ?_
      rw [F.K]
      exact rd_cmpT hc q
    · cases he
  · cases he
theorem snd_fn2 {X : Cx} {sc : Scope} {l : Lay} {x : KX} (F : Fit X nc sc l fe) (o : O3) {f g : List SV → KA → Prop} {va vb : Expr → Bool} (h : ∀ e, va e = true → PE X e (tV l x f)) (h' : ∀ e, vb e = true → PE X e (tV l x g)) (e : Expr) (he : fn2B nc sc o va vb e = true) :
    PE X e (tV l x fun ρ k => f ρ fun p => g ρ fun q => w3 o p q k) := by
  unfold fn2B at he
  split at he
  · rename_i y a b hx
    obtain ⟨p, q, rfl⟩ := asCall_eq hx
    simp only [Bool.and_eq_true, decide_eq_true_eq] at he
    obtain ⟨⟨⟨⟨⟨⟨rfl, hg⟩, hs⟩, hs2⟩, h1⟩, h2⟩, h3⟩ := he
    have pa : PA X [a, b] (tCons (tV l x f) (tCons (tV l x g) tNil)) := pa_cons (h a h1) (ca1 (h' b h2) hs2) (star_cons hs _ X.env)
    have hpl : (backTo q (starEach [b] X.env)).any (·.1) = false := star_plain (by simp [hs2])
    cases o with
    | max =>
      refine (pe_callB (call_maxW F.calm) (F.gl hg) (blt_in F (by decide +kernel)) (by decide +kernel) pa (by decide) (by decide) (star_cons hs _ X.env) hpl).imq fun σ H Q q => ?_
      rw [F.K]
      exact rd_call2 q
    | min =>
      refine (pe_callB (call_minW F.calm) (F.gl hg) (blt_in F (by decide +kernel)) (by decide +kernel) pa (by decide) (by decide) (star_cons hs _ X.env) hpl).imq fun σ H Q q => ?_
      rw [F.K]
      exact rd_call2 q
    | gcd =>
      refine (pe_callBfun call_gcdW (F.gl hg) (F.gcd h3) pa (by decide) (star_cons hs _ X.env) hpl).imq fun σ H Q q => ?_
      rw [F.K]
      exact rd_call2 q
  · cases he
theorem snd_max3 {X : Cx} {sc : Scope} {l : Lay} {x : KX} (F : Fit X nc sc l fe) {f g h : List SV → KA → Prop} {va vb vc : Expr → Bool} (h1 : ∀ e, va e = true → PE X e (tV l x f)) (h2 : ∀ e, vb e = true → PE X e (tV l x g)) (h3 : ∀ e, vc e = true → PE X e (tV l x h)) (e : Expr) (he : max3B nc sc va vb vc e = true) :
    PE X e (tV l x fun ρ k => f ρ fun p => g ρ fun q => h ρ fun r => max3W p q r k) := by
  unfold max3B at he
  split at he
  · rename_i y a b c hx
    obtain ⟨p, q, rfl⟩ := asCall_eq hx
    simp only [Bool.and_eq_true, decide_eq_true_eq] at he
    obtain ⟨⟨⟨⟨⟨⟨⟨rfl, hg⟩, hs⟩, hs2⟩, hs3⟩, w1⟩, w2⟩, w3⟩ := he
    have pa : PA X [a, b, c] (tCons (tV l x f) (tCons (tV l x g) (tCons (tV l x h) tNil))) := pa_cons (h1 a w1) (pa_cons (h2 b w2) (ca1 (h3 c w3) hs3) (star_cons hs2 _ X.env)) (star_cons hs _ X.env)
    have hpl : (backTo q (starEach [b, c] X.env)).any (·.1) = false := star_plain (by simp [hs2, hs3])
    refine (pe_callB (call_max3W F.calm) (F.gl hg) (blt_in F (by decide +kernel)) (by decide +kernel) pa (by decide) (by decide) (star_cons hs _ X.env) hpl).imq fun σ H Q q => ?_
    rw [F.K]
    exact rd_call3 q
  · cases he
theorem snd_call {X : Cx} {sc : Scope} {l : Lay} {x : KX} (F : Fit X nc sc l fe) (f : Nat) (pm : List Nat) {n m : Nat} {fs gs : List SV → (List AV → Prop) → Prop} {ca : List Expr → Bool} {ck : List Keyword → Bool}
    (h : ∀ e, ca e = true → PA X e (tL l x fs)) (h' : ∀ e, ck e = true → PK X e (tL l x gs)) (e : Expr) (he : callB nc sc f n m pm ca ck e = true) (h0 : n = 0 → ∀ ρ k, fs ρ k → k []) :
    PE X e (tV l x fun ρ k => fs ρ fun as => as.length = n ∧ gs ρ fun bs => bs.length = m ∧ ∃ cs, permL ((as ++ bs).map argOf) pm = some cs ∧ callW fe x f ((as ++ bs).any AV.isBor) cs k) := by
  unfold callB at he
  split at he
  · rename_i y es ks hx
    obtain ⟨p, q, rfl⟩ := asCall_eq hx
    simp only [Bool.and_eq_true, decide_eq_true_eq, List.any_eq_true, Bool.not_eq_true'] at he
    obtain ⟨⟨⟨⟨⟨⟨⟨⟨⟨hg, hdb⟩, hn⟩, hm⟩, hk⟩, hs⟩, h1⟩, h2⟩, h3⟩, pt, hp, ⟨⟨⟨rfl, rfl⟩, e3⟩, e4⟩, rfl⟩ := he
    obtain ⟨a, fd, ps, hm1, hm2, hm3, hm4, hm5⟩ := (F.pats pt hp).ex
    rw [← F.K] at hm2 hm4 hm5
    rw [e4] at hm4
    subst hn hm
    have rd : ∀ σ H Q, tV l x (fun ρ k => fs ρ fun as => as.length = es.length ∧ gs ρ fun bs => bs.length = (ks.filterMap (·.arg)).length ∧ ∃ cs, permL ((as ++ bs).map argOf) pt.perm = some cs ∧ callW fe x pt.f ((as ++ bs).any AV.isBor) cs k) σ H Q →
        tCallG (spF l (fe pt.f) ps.length) pt.n (ks.filterMap (·.arg)).length (gP pt.perm) l.W (tL l x fs) (tL l x gs) σ H Q := fun σ H Q q => by
      rw [e3]
      exact rd_call hm3.symm q
    cases es with
    | cons e1 es =>
      have hs' := hs
      rw [List.all_cons, Bool.and_eq_true] at hs'
      exact (pe_callG hm5 F.room (F.gl hg) hm1 hm2 hm4 F.tk (h _ h1) (h' _ h2) hk hdb (star_cons hs'.1 _ X.env) (star_plain hs'.2)).imq rd
    | nil =>
      refine (pe_callG0 hm5 F.room (F.gl hg) hm1 hm2 hm4 F.tk (h' _ h2) hk hdb).imq fun σ H Q q => ?_
      obtain ⟨L, Hi0, B, Hi, ρ, k, s, hf, ha⟩ := q
      have q2 := rd σ H Q ⟨L, Hi0, B, Hi, ρ, k, s, hf, ha⟩
      obtain ⟨L', Hi0', B', Hi', ρ', k', s', hf', ha'⟩ := q2
      exact ha' [] (h0 rfl _ _ hf') [] Hi' H (Grow.refl s'.r.g.sub) s'.r.src .nil
  · cases he
end
end Un
end
section
/-! Un: every phrase, by induction. -/
namespace Un
open PySem PySem.Spec L2
section
variable {nc : Nc} {fe : FE}
theorem ev_len0 {x : KX} : ∀ {E : E}, eLen E = 0 → ∀ ρ k, (ev fe x E).l ρ k → k [] := fun {E} h ρ k q => by
  cases E <;> first | exact q | (simp [eLen] at h; done) | exact q.elim
theorem ownOf_map (N : List Str) (own : List Nat) : (ownOf N own).map (·.2) = own := by
  unfold ownOf
  rw [List.map_map]
  exact List.map_id' own
theorem rng_ok {X : Cx} {sc : Scope} {l : Lay} (F : Fit X nc sc l fe) : X.mg "range" = none := blt_in F (by decide +kernel)
/-- nothing is asked of what is no value -/
theorem Snd.none' {X : Cx} {l : Lay} {x : KX} {d : D4} {sc : Scope} {c : Ck} (hv : ∀ e, c.v sc e = false) (ht : ∀ e, c.t sc e = false) (hi : ∀ tg e, c.i sc tg e = false) (ha : ∀ es, c.a sc es = true → PA X es (tL l x d.l)) (hk : ∀ ks, c.k sc ks = true → PK X ks (tL l x d.l)) (ho : ∀ e, c.o sc e = true → PO X e (tO l x d.o)) : Snd X l x d c sc :=
  ⟨fun e he => (by rw [hv] at he; cases he), fun e he => (by rw [ht] at he; cases he), ha, hk, fun tg e he => (by rw [hi] at he; cases he), ho⟩
theorem snd : ∀ (E : E) {X : Cx} {sc : Scope} {l : Lay} {x : KX}, Fit X nc sc l fe → Snd X l x (ev fe x E) (chk nc E) sc
  | .dat d, X, sc, l, x, F => Snd.ofV rfl F.K ⟨rfl, rfl, rfl⟩ fun e he => by
    rw [Bool.or_eq_true] at he
    rcases he with he | he
    · split at he
      · rename_i d' hd
        have e1 := same_eq _ _ he
        subst e1
        unfold asDat at hd
        split at hd <;> first | (cases hd; done) | (cases hd)
        · exact pe_int.imq fun σ H Q q => rd_dat (fun _ => .int _) q
        · exact pe_bl.imq fun σ H Q q => rd_dat (fun _ => .bl _) q
        · exact pe_non.imq fun σ H Q q => rd_dat (fun _ => .non) q
        · exact pe_str.imq fun σ H Q q => rd_dat (fun _ => .str _) q
      · cases he
    · split at he
      · rename_i y hy
        obtain ⟨p, rfl⟩ := asName_eq hy
        simp only [Bool.and_eq_true, List.any_eq_true, decide_eq_true_eq, Bool.not_eq_true'] at he
        obtain ⟨⟨hg, hdb⟩, c, hc, rfl, hs⟩ := he
        obtain ⟨u, v, h1, h2, h3⟩ := F.csts c hc
        have e1 := same_eq _ _ hs
        subst e1
        exact (pe_glob (F.gl hg) h1 h2 hdb).imq fun σ H Q q => rd_dat h3 q
      · cases he
  | .var i, X, sc, l, x, F => Snd.ofV rfl F.K ⟨rfl, rfl, rfl⟩ fun e he => by
    split at he
    · rename_i y hy
      obtain ⟨p, rfl⟩ := asName_eq hy
      unfold varB at he
      simp only [Bool.and_eq_true, decide_eq_true_eq, Bool.not_eq_true'] at he
      obtain ⟨⟨⟨h1, h2⟩, h3⟩, h4⟩ := he
      exact (pe_var (by rw [F.N]; exact h1) (F.vis h2) h3 h4).imq fun σ H Q q => rd_var q
    · cases he
  | .bin o a b, X, sc, l, x, F => by
    have A := snd a (x := x) F
    have B := snd b (x := x) F
    have base : Snd X l x (ev fe x (.bin o a b)) (Ck.ofV fun sc e => binB o ((chk nc a).v sc) ((chk nc b).v sc) e) sc := Snd.ofV rfl F.K ⟨rfl, rfl, rfl⟩ (snd_bin F o A.v B.v)
    refine ⟨base.v, fun e he => ?_, base.a, base.k, base.i, base.o⟩
    replace he : ((plainT e && binB o ((chk nc a).v sc) ((chk nc b).v sc) e) || cmpB o ((chk nc a).v sc) ((chk nc b).v sc) e) = true := he
    rw [Bool.or_eq_true] at he
    rcases he with he | he
    · exact base.t e he
    · exact snd_cmpT F o A.v B.v e he
  | .un o a, X, sc, l, x, F => by
    have A := snd a (x := x) F
    have base : Snd X l x (ev fe x (.un o a)) (Ck.ofV fun sc e => unB nc sc o ((chk nc a).v sc) e) sc := Snd.ofV rfl F.K ⟨rfl, rfl, rfl⟩ (snd_un F o A.v)
    refine ⟨base.v, fun e he => ?_, base.a, base.k, base.i, base.o⟩
    replace he : ((plainT e && unB nc sc o ((chk nc a).v sc) e) || nonT o ((chk nc a).v sc) e) = true := he
    rw [Bool.or_eq_true] at he
    rcases he with he | he
    · exact base.t e he
    · cases o with
      | isN =>
        obtain ⟨b, k, p, q, rfl, hv⟩ := noneB_ok (op := .Is) he
        exact (pt_cmp (pc_isN (A.v b hv))).imq fun σ H Q q => rd_isNT q
      | notN =>
        obtain ⟨b, k, p, q, rfl, hv⟩ := noneB_ok (op := .IsNot) he
        exact (pt_cmp (pc_notN (A.v b hv))).imq fun σ H Q q => rd_notNT q
      | _ => cases he
  | .fn2 o a b, X, sc, l, x, F => Snd.ofV rfl F.K ⟨rfl, rfl, rfl⟩ (snd_fn2 F o (snd a (x := x) F).v (snd b (x := x) F).v)
  | .max3 a b c, X, sc, l, x, F => Snd.ofV rfl F.K ⟨rfl, rfl, rfl⟩ (snd_max3 F (snd a (x := x) F).v (snd b (x := x) F).v (snd c (x := x) F).v)
  | .band a b, X, sc, l, x, F => by
    have A := snd a (x := x) F
    have B := snd b (x := x) F
    have base : Snd X l x { ev fe x (.band a b) with t := fun ρ k => (ev fe x (.band a b)).v ρ fun p => truthW p k } (Ck.ofV fun sc e => boolB .And ((chk nc a).v sc) ((chk nc b).v sc) e) sc := Snd.ofV rfl F.K ⟨rfl, rfl, rfl⟩ fun e he => by
      obtain ⟨ea, eb, r, p, rfl, h1, h2⟩ := boolB_ok he
      cases r with
      | nil => exact (pe_and (A.v ea h1) (pe_one (B.v eb h2))).imq fun σ H Q q => rd_and q
      | cons y r => exact (pe_and (A.v ea h1) (B.v _ h2)).imq fun σ H Q q => rd_and q
    refine ⟨base.v, fun e he => ?_, base.a, base.k, base.i, base.o⟩
    obtain ⟨ea, eb, r, p, rfl, h1, h2⟩ := boolB_ok (op := .And) he
    cases r with
    | nil => exact ((pw_and (A.t ea h1) (pw_and1 (B.t eb h2))).pt).imq fun σ H Q q => rd_andT q
    | cons y r => exact ((pw_and (A.t ea h1) (pw_of (B.t _ h2))).pt).imq fun σ H Q q => rd_andT q
  | .bor a b, X, sc, l, x, F => by
    have A := snd a (x := x) F
    have B := snd b (x := x) F
    have base : Snd X l x { ev fe x (.bor a b) with t := fun ρ k => (ev fe x (.bor a b)).v ρ fun p => truthW p k } (Ck.ofV fun sc e => boolB .Or ((chk nc a).v sc) ((chk nc b).v sc) e) sc := Snd.ofV rfl F.K ⟨rfl, rfl, rfl⟩ fun e he => by
      obtain ⟨ea, eb, r, p, rfl, h1, h2⟩ := boolB_ok he
      cases r with
      | nil => exact (pe_or (A.v ea h1) (pe_one (B.v eb h2))).imq fun σ H Q q => rd_or q
      | cons y r => exact (pe_or (A.v ea h1) (B.v _ h2)).imq fun σ H Q q => rd_or q
    refine ⟨base.v, fun e he => ?_, base.a, base.k, base.i, base.o⟩
    obtain ⟨ea, eb, r, p, rfl, h1, h2⟩ := boolB_ok (op := .Or) he
    cases r with
    | nil => exact ((pw_or (A.t ea h1) (pw_or1 (B.t eb h2))).pt).imq fun σ H Q q => rd_orT q
    | cons y r => exact ((pw_or (A.t ea h1) (pw_of (B.t _ h2))).pt).imq fun σ H Q q => rd_orT q
  | .bnot a, X, sc, l, x, F => by
    have A := snd a (x := x) F
    have base : Snd X l x { ev fe x (.bnot a) with t := fun ρ k => (ev fe x (.bnot a)).v ρ fun p => truthW p k } (Ck.ofV fun sc e => match asUn e with
      | some (op, b) => decide (op = .Not) && (chk nc a).v sc b
      | none => false) sc := Snd.ofV rfl F.K ⟨rfl, rfl, rfl⟩ fun e he => by
      split at he
      · rename_i op b hx
        obtain ⟨p, rfl⟩ := asUn_eq hx
        simp only [Bool.and_eq_true, decide_eq_true_eq] at he
        obtain ⟨rfl, hv⟩ := he
        exact (pe_not (A.v b hv)).imq fun σ H Q q => rd_not q
      · cases he
    refine ⟨base.v, fun e he => ?_, base.a, base.k, base.i, base.o⟩
    replace he : (match asUn e with
      | some (op, b) => decide (op = .Not) && (chk nc a).t sc b
      | none => false) = true := he
    split at he
    · rename_i op b hx
      obtain ⟨p, rfl⟩ := asUn_eq hx
      simp only [Bool.and_eq_true, decide_eq_true_eq] at he
      obtain ⟨rfl, hv⟩ := he
      exact (pt_not (A.t b hv)).imq fun σ H Q q => rd_notT q
    · cases he
  | .ife c a b, X, sc, l, x, F => Snd.ofV rfl F.K ⟨rfl, rfl, rfl⟩ fun e he => by
    split at he
    · rename_i ec ea eb hx
      obtain ⟨p, rfl⟩ := asIf_eq hx
      simp only [Bool.and_eq_true] at he
      obtain ⟨⟨h1, h2⟩, h3⟩ := he
      exact (pe_ifExp ((snd c (x := x) F).t _ h1) ((snd a (x := x) F).v _ h2) ((snd b (x := x) F).v _ h3)).imq fun σ H Q q => rd_if q
    · cases he
  | .tup es, X, sc, l, x, F => Snd.ofV rfl F.K ⟨rfl, rfl, rfl⟩ fun e he => by
    split at he
    · rename_i xs hx
      obtain ⟨k, p, rfl⟩ := asTup_eq hx
      exact (pe_tup ((snd es (x := x) F).a _ he)).imq fun σ H Q q => rd_tup q
    · cases he
  | .lst es, X, sc, l, x, F => Snd.ofV rfl F.K ⟨rfl, rfl, rfl⟩ fun e he => by
    split at he
    · rename_i xs hx
      obtain ⟨p, rfl⟩ := asLst_eq hx
      exact (pe_lst ((snd es (x := x) F).a _ he)).imq fun σ H Q q => rd_lst q
    · cases he
  | .slc a lo hi, X, sc, l, x, F => Snd.ofV rfl F.K ⟨rfl, rfl, rfl⟩ fun e he => by
    split at he
    · rename_i y s hx
      obtain ⟨p, rfl⟩ := asSub_eq hx
      split at he
      · rename_i lo' hi' hs
        obtain ⟨p2, rfl⟩ := asSlc_eq hs
        simp only [Bool.and_eq_true] at he
        obtain ⟨⟨h1, h2⟩, h3⟩ := he
        refine (pe_slice sl_ok ((snd a (x := x) F).v _ h1) ((snd lo (x := x) F).o _ h2) ((snd hi (x := x) F).o _ h3)).imq fun σ H Q q => ?_
        rw [F.K]
        exact rd_slc q
      · cases he
    · cases he
  | .rev a, X, sc, l, x, F => Snd.ofV rfl F.K ⟨rfl, rfl, rfl⟩ fun e he => by
    split at he
    · rename_i y s hx
      obtain ⟨p, rfl⟩ := asSub_eq hx
      simp only [Bool.and_eq_true] at he
      obtain ⟨k, p1, p2, p3, rfl⟩ := isRevS_eq he.1
      refine (pe_revA ((snd a (x := x) F).v _ he.2)).imq fun σ H Q q => ?_
      rw [F.K]
      exact rd_rev q
    · cases he
  | .call f pm es ks, X, sc, l, x, F => Snd.ofV rfl F.K ⟨rfl, rfl, rfl⟩ fun e he => snd_call F f pm (snd es (x := x) F).a (snd ks (x := x) F).k e he fun h0 => ev_len0 h0
  | .cmp own elt tg it c, X, sc, l, x, F => Snd.ofV rfl F.K ⟨rfl, rfl, rfl⟩ fun e he => by
    replace he : lcB nc own tg (isNo c) (chk nc elt).v (chk nc it).i (chk nc c).t sc e = true := he
    unfold lcB at he
    split at he
    · rename_i el tge iter ifs scope pos hx
      have hx := asLc_eq hx
      subst hx
      simp only [Bool.and_eq_true] at he
      obtain ⟨⟨⟨⟨⟨⟨h1, h2⟩, h3⟩, h4⟩, h5⟩, h6⟩, h7⟩ := he
      have hown : tgIn tg own := by
        cases tg with
        | nm i =>
          show i ∈ own
          simpa using h3
        | tp is =>
          have h3 : is.all own.contains = true := h3
          intro i hi
          have := List.all_eq_true.mp h3 i hi
          simpa using this
      have key := pe_lc (X := X) (elt := el) (tg := tge) (iter := iter) (ifs := ifs) (scope := scope) (pos := pos) (own := ownOf nc.N own) (wi := tI l x (ev fe x it).i) (g := gTg l.K tg)
        (tt := tTs l (if isNo c = true then none else some (ev fe noX c).t)) (te := tV l.mute noX (ev fe noX elt).v) F.calm F.nd ((snd it (x := x) F).i tge iter h4).1
        (blkOk_by (by rw [F.N, F.sc]; exact h1))
        (fun s H C cl fp => tgB_ok (X := X.blk s H scope (compEnvC scope cl C X.env) fp) (nc := nc) (l := l) (sc := scope) F.N F.nd F.K F.calm (fun y hy => F.blkOwn s H scope cl C fp hy) h2)
        (fun s H C cl fp => by
          cases ifs with
          | nil =>
            replace h7 : isNo c = true := h7
            rw [if_pos h7]
            exact pts_nil
          | cons e0 r =>
            cases r with
            | nil =>
              replace h7 : (!isNo c && (chk nc c).t (relS scope sc) e0) = true := h7
              rw [Bool.and_eq_true, Bool.not_eq_true'] at h7
              rw [if_neg (by rw [h7.1]; decide)]
              exact pts_one ((snd c (x := noX) (F.blk s H scope cl C fp)).t e0 h7.2)
            | cons _ _ => cases h7)
        (fun s H C cl fp => (snd elt (x := noX) (F.blk s H scope cl C fp)).v el h6)
        (notSet_eq h5 X.env)
      rw [ownOf_map] at key
      exact key.imq fun σ H Q q => rd_lc hown q
    · cases he
  | .rng1 a, X, sc, l, x, F => Snd.ofI rfl fun tg e he => by
    replace he : rngB1 sc ((chk nc a).v sc) e = true := he
    unfold rngB1 at he
    split at he
    · rename_i y ea hx
      obtain ⟨p, q, rfl⟩ := asCall_eq hx
      simp only [Bool.and_eq_true, decide_eq_true_eq] at he
      obtain ⟨⟨⟨rfl, hg⟩, hs⟩, hv⟩ := he
      exact (pi_range1 (F.gl hg) (rng_ok F) (ca1 ((snd a (x := x) F).v _ hv) hs) (star_cons hs [] X.env)).imq fun σ H Q q => rd_rng1 q
    · cases he
  | .rng2 a b, X, sc, l, x, F => Snd.ofI rfl fun tg e he => by
    replace he : rngB2 sc ((chk nc a).v sc) ((chk nc b).v sc) e = true := he
    unfold rngB2 at he
    split at he
    · rename_i y ea eb hx
      obtain ⟨p, q, rfl⟩ := asCall_eq hx
      simp only [Bool.and_eq_true, decide_eq_true_eq] at he
      obtain ⟨⟨⟨⟨⟨rfl, hg⟩, hs⟩, hs2⟩, hv⟩, hv2⟩ := he
      exact (pi_range2 (F.gl hg) (rng_ok F) (pa_cons ((snd a (x := x) F).v _ hv) (ca1 ((snd b (x := x) F).v _ hv2) hs2) (star_cons hs _ X.env)) (by rw [star_cons hs, star_cons hs2] <;> rfl) (star_cons hs2 [] X.env)).imq fun σ H Q q => rd_rng2 q
    · cases he
  | .rng3 a b c, X, sc, l, x, F => Snd.ofI rfl fun tg e he => by
    replace he : rngB3 sc ((chk nc a).v sc) ((chk nc b).v sc) ((chk nc c).v sc) e = true := he
    unfold rngB3 at he
    split at he
    · rename_i y ea eb ec hx
      obtain ⟨p, q, rfl⟩ := asCall_eq hx
      simp only [Bool.and_eq_true, decide_eq_true_eq] at he
      obtain ⟨⟨⟨⟨⟨⟨⟨rfl, hg⟩, hs⟩, hs2⟩, hs3⟩, hv⟩, hv2⟩, hv3⟩ := he
      exact (pi_range3 (F.gl hg) (rng_ok F) (pa_cons ((snd a (x := x) F).v _ hv) (pa_cons ((snd b (x := x) F).v _ hv2) (ca1 ((snd c (x := x) F).v _ hv3) hs3) (star_cons hs2 _ X.env)) (star_cons hs _ X.env)) (star_cons hs _ X.env) (star_plain (by simp [hs2, hs3]))).imq fun σ H Q q => rd_rng3 q
    · cases he
  | .enu a, X, sc, l, x, F => Snd.ofI rfl fun tg e he => by
    rw [Bool.and_eq_true] at he
    obtain ⟨ht, he⟩ := he
    have ht : (asTup tg).isSome = true := ht
    obtain ⟨es, hes⟩ := Option.isSome_iff_exists.mp ht
    obtain ⟨kk, tp, rfl⟩ := asTup_eq hes
    obtain ⟨b, p, q, rfl, hg, hs, hv⟩ := callB1_ok he
    refine (pi_enumA (F.gl hg) (blt_in F (by decide +kernel)) ((snd a (x := x) F).v _ hv) (star_cons hs [] X.env)).imq fun σ H Q q => ?_
    rw [F.K]
    exact rd_enu q
  | .zip2 a b, X, sc, l, x, F => Snd.ofI rfl fun tg e he => by
    rw [Bool.and_eq_true] at he
    obtain ⟨ht, he⟩ := he
    have ht : (asTup tg).isSome = true := ht
    obtain ⟨es, hes⟩ := Option.isSome_iff_exists.mp ht
    obtain ⟨kk, tp, rfl⟩ := asTup_eq hes
    split at he
    · rename_i y ea eb hx
      obtain ⟨p, q, rfl⟩ := asCall_eq hx
      simp only [Bool.and_eq_true, decide_eq_true_eq] at he
      obtain ⟨⟨⟨⟨⟨rfl, hg⟩, hs⟩, hs2⟩, hv⟩, hv2⟩ := he
      refine (RZ.pi_zipA (F.gl hg) (blt_in F (by decide +kernel)) (pa_cons ((snd a (x := x) F).v _ hv) (ca1 ((snd b (x := x) F).v _ hv2) hs2) (star_cons hs _ X.env)) (star_cons hs _ X.env) (star_plain (by simp [hs2]))).imq fun σ H Q q => ?_
      rw [F.K]
      exact rd_zip q
    · cases he
  | .rvd a, X, sc, l, x, F => Snd.ofI rfl fun tg e he => by
    obtain ⟨b, p, q, rfl, hg, hs, hv⟩ := callB1_ok he
    refine (RT.pi_revA (F.gl hg) (blt_in F (by decide +kernel)) ((snd a (x := x) F).v _ hv) (star_cons hs [] X.env)).imq fun σ H Q q => ?_
    rw [F.K]
    exact rd_rvd q
  | .no, X, sc, l, x, F => Snd.none' (fun _ => rfl) (fun _ => rfl) (fun tg e => Bool.and_false _) (fun _ he => nomatch he) (fun _ he => nomatch he) fun e he => by
    cases e with
    | none => exact po_none.imq fun σ H Q q => rd_none q
    | some _ => cases he
  | .nil, X, sc, l, x, F => Snd.none' (fun _ => rfl) (fun _ => rfl) (fun tg e => Bool.and_false _) (fun es he => by
    cases es with
    | nil => exact pa_nil.imq fun σ H Q q => rd_nil q
    | cons _ _ => cases he) (fun ks he => by
    cases ks with
    | nil => exact pk_nil.imq fun σ H Q q => rd_nil q
    | cons _ _ => cases he) (fun _ he => nomatch he)
  | .cons a r, X, sc, l, x, F => Snd.none' (fun _ => rfl) (fun _ => rfl) (fun tg e => Bool.and_false _) (fun es he => by
    cases es with
    | nil => cases he
    | cons e es =>
      replace he : (notStar e && (chk nc a).v sc e && (chk nc r).a sc es) = true := he
      simp only [Bool.and_eq_true] at he
      exact (pa_cons ((snd a (x := x) F).v _ he.1.2) ((snd r (x := x) F).a _ he.2) (star_cons he.1.1 _ X.env)).imq fun σ H Q q => rd_cons q) (fun ks he => by
    cases ks with
    | nil => cases he
    | cons q ks =>
      replace he : ((chk nc a).v sc q.value && (chk nc r).k sc ks) = true := he
      simp only [Bool.and_eq_true] at he
      obtain ⟨nm, vl, kp⟩ := q
      exact (pk_cons ((snd a (x := x) F).v _ he.1) ((snd r (x := x) F).k _ he.2)).imq fun σ H Q q => rd_cons q) (fun _ he => nomatch he)
end
end Un
end
section
/-! Un: when a statement is one of the pure language. -/
namespace Un
open PySem PySem.Spec L2

def asAsg : Stmt → Option (Expr × Expr × Pos)
  | .Assign [t] e p => some (t, e, p)
  | _ => none
theorem asAsg_eq {st : Stmt} {t e : Expr} {p : Pos} (h : asAsg st = some (t, e, p)) : st = .Assign [t] e p := by
  unfold asAsg at h
  split at h
  · cases h; rfl
  · cases h
def asRet : Stmt → Option (Option Expr)
  | .Return e _ => some e
  | _ => none
theorem asRet_eq {st : Stmt} {e : Option Expr} (h : asRet st = some e) : ∃ p, st = .Return e p := by
  unfold asRet at h
  split at h
  · cases h; exact ⟨_, rfl⟩
  · cases h
def asIfS : Stmt → Option (Expr × List Stmt × List Stmt)
  | .If c a b _ => some (c, a, b)
  | _ => none
theorem asIfS_eq {st : Stmt} {c : Expr} {a b : List Stmt} (h : asIfS st = some (c, a, b)) : ∃ p, st = .If c a b p := by
  unfold asIfS at h
  split at h
  · cases h; exact ⟨_, rfl⟩
  · cases h
def asFor : Stmt → Option (Expr × Expr × List Stmt)
  | .For t i b [] _ => some (t, i, b)
  | _ => none
theorem asFor_eq {st : Stmt} {t i : Expr} {b : List Stmt} (h : asFor st = some (t, i, b)) : ∃ p, st = .For t i b [] p := by
  unfold asFor at h
  split at h
  · cases h; exact ⟨_, rfl⟩
  · cases h
def asWhl : Stmt → Option (Expr × List Stmt)
  | .While c b [] _ => some (c, b)
  | _ => none
theorem asWhl_eq {st : Stmt} {c : Expr} {b : List Stmt} (h : asWhl st = some (c, b)) : ∃ p, st = .While c b [] p := by
  unfold asWhl at h
  split at h
  · cases h; exact ⟨_, rfl⟩
  · cases h
def asExp : Stmt → Option (Expr × Pos)
  | .Expr e p => some (e, p)
  | _ => none
theorem asExp_eq {st : Stmt} {e : Expr} {p : Pos} (h : asExp st = some (e, p)) : st = .Expr e p := by
  unfold asExp at h
  split at h
  · cases h; rfl
  · cases h
/-- o.append(e) -/
def asApp : Expr → Option (Str × Expr × Pos × Pos)
  | .Call (.Attribute (.Name x _) m ap) [e] [] cp => if m = "append" then some (x, e, ap, cp) else none
  | _ => none
theorem asApp_eq {e v : Expr} {x : Str} {ap cp : Pos} (h : asApp e = some (x, v, ap, cp)) : ∃ p, e = .Call (.Attribute (.Name x p) "append" ap) [v] [] cp := by
  unfold asApp at h
  split at h
  · split at h
    · rename_i hm
      cases h
      subst hm
      exact ⟨_, rfl⟩
    · cases h
  · cases h
def isCompr : Expr → Bool
  | .ListComp .. => true
  | .SetComp .. => true
  | .DictComp .. => true
  | _ => false
theorem swaps_no {e : Expr} (h : isCompr e = false) (t : Option Expr) (n : Nat) (env : Env) : swapsWith e t n env = pure false := by
  cases e <;> first | rfl | (simp [isCompr] at h; done)
/-- name = [..] whose own variables are swapped in -/
def swB (sc : Scope) (y : Str) (yl el : Nat) (scope : Scope) : Bool := decide (sc.kind = .function) && decide (sc.names.lookup y = some .local) && (yl == el) && !(scope.names.any fun (n, k) => n == y && (k == .local || k == .cell))
/-- .. and whose are not -/
def swN (sc : Scope) (y : Str) (yl el : Nat) (scope : Scope) : Bool := !((if sc.kind.isAnnotationScope then .function else sc.kind) == ScopeKind.function && sc.names.lookup y == some .local && yl == el && !(scope.names.any fun (n, k) => n == y && (k == .local || k == .cell)))
theorem sw_no {elt : Expr} {gs : List Comprehension} {scope : Scope} {pos py : Pos} {y : Str} {n : Nat} {env : Env} (h : swN env.scope y py.line pos.line scope = true) : swapsWith (.ListComp elt gs scope pos) (some (.Name y py)) n env = pure false := by
  unfold swN at h
  rw [Bool.not_eq_true'] at h
  unfold swapsWith
  show (pure _ : Sem Bool) = pure false
  congr 1
def setB (nc : Nc) (sc : Scope) (i : Nat) (y : Str) (py : Pos) (ve : Expr → Bool) (e : Expr) : Bool := ownB nc sc i y && ve e && (match asLc e with
  | some (_, _, _, _, scope, pos) => swN sc y py.line pos.line scope
  | none => !isCompr e)
/-- the same by the comprehension's parts -/
def setLcB (nc : Nc) (sc : Scope) (i : Nat) (y : Str) (py : Pos) (lb : Expr → Bool) (e : Expr) : Bool := decide (nc.N[i]? = some y) && lb e && (match asLc e with
  | some (_, _, _, _, scope, pos) => swB sc y py.line pos.line scope
  | none => false)
/-- what a, b = x, y asks: 1 stored from the right, 0 unpacked -/
def parNames (sc : Scope) (ts : List Expr) : List Str := ts.filterMap fun
  | .Name id pos => if sc.names.lookup id == some .local && pos.line == ((ts.head?.map (·.pos.line)).getD 0) then some id else none
  | _ => none
def parTup (sc : Scope) (ts vs : List Expr) : Bool := !(ts.length == 2 || ts.length == 3) || (vs.length != ts.length) || ((if sc.kind.isAnnotationScope then .function else sc.kind) != .function) || (!(vs.any fun | .Starred .. => true | _ => false) &&
  ((parNames sc ts).length != ts.length || (parNames sc ts).eraseDups.length != (parNames sc ts).length || vs.all (foldedForSure 8)))
def parSwap (sc : Scope) (ts vs : List Expr) : Bool := (ts.length == 2 || ts.length == 3) && (vs.length == ts.length) && ((if sc.kind.isAnnotationScope then .function else sc.kind) == .function) && !(vs.any fun | .Starred .. => true | _ => false) &&
  (parNames sc ts).length == ts.length && (parNames sc ts).eraseDups.length == (parNames sc ts).length && !(vs.all (foldedForSure 8)) && !(vs.all (constantsAlone 8))
theorem parTup_eq {env : Env} {ts vs : List Expr} {k k2 : Nat} {p p2 : Pos} (h : parTup env.scope ts vs = true) : swappedStores [.Tuple ts k p] (.Tuple vs k2 p2) env = pure none := by
  unfold parTup at h
  unfold swappedStores
  simp only [pure_bind]
  simp only [Bool.or_eq_true, Bool.and_eq_true] at h
  by_cases h1 : (!(ts.length == 2 || ts.length == 3) || vs.length != ts.length || env.blockKind != .function) = true
  · rw [if_pos h1]
  · rw [if_neg h1]
    split
    · rfl
    · split
      · rfl
      · rename_i h2 h3
        split
        · rfl
        · rename_i h4
          exfalso
          rcases h with ((h | h) | h) | ⟨_, (h | h) | h⟩
          · exact h1 (by rw [h] <;> rfl)
          · exact h1 (by rw [h, Bool.or_true] <;> rfl)
          · refine h1 ?_
            show (!(ts.length == 2 || ts.length == 3) || vs.length != ts.length || ((if env.scope.kind.isAnnotationScope = true then ScopeKind.function else env.scope.kind) != ScopeKind.function)) = true
            rw [h, Bool.or_true]
          · refine h3 ?_
            show ((parNames env.scope ts).length != ts.length || (parNames env.scope ts).eraseDups.length != (parNames env.scope ts).length) = true
            rw [h] <;> rfl
          · refine h3 ?_
            show ((parNames env.scope ts).length != ts.length || (parNames env.scope ts).eraseDups.length != (parNames env.scope ts).length) = true
            rw [h, Bool.or_true]
          · exact h4 h
theorem parSwap_eq {env : Env} {ts vs : List Expr} {k k2 : Nat} {p p2 : Pos} (h : parSwap env.scope ts vs = true) : swappedStores [.Tuple ts k p] (.Tuple vs k2 p2) env = pure (some (parNames env.scope ts)) := by
  unfold parSwap at h
  simp only [Bool.and_eq_true, Bool.not_eq_true'] at h
  obtain ⟨⟨⟨⟨⟨⟨⟨q1, q2⟩, q3⟩, q4⟩, q5⟩, q6⟩, q7⟩, q8⟩ := h
  unfold swappedStores
  simp only [pure_bind]
  have h1 : ¬ (!(ts.length == 2 || ts.length == 3) || vs.length != ts.length || env.blockKind != ScopeKind.function) = true := by
    show ¬ (!(ts.length == 2 || ts.length == 3) || !(vs.length == ts.length) || !((if env.scope.kind.isAnnotationScope = true then ScopeKind.function else env.scope.kind) == ScopeKind.function)) = true
    rw [q1, q2, q3]
    decide
  rw [if_neg h1]
  split
  · rename_i h2
    exact absurd (h2.symm.trans q4) (by decide)
  · split
    · rename_i h3
      have h3 : (!((parNames env.scope ts).length == ts.length) || !((parNames env.scope ts).eraseDups.length == (parNames env.scope ts).length)) = true := h3
      rw [q5, q6] at h3
      cases h3
    · rw [if_neg (by rw [q7]; decide), if_neg (by rw [q8]; decide)]
      rfl
end Un
end
section
/-! Un: the statements' readings. -/
namespace Un
open PySem PySem.Spec L2

structure Sts (l : Lay) (x : KX) (L : Loc) (Hi0 B Hi : Hp) (σ : L2.St) (H : Hp) (ρ : List SV) : Prop where
  k : l.κ L
  r : Rel l.K L Hi0 B Hi σ H ρ
  e : ∀ ρ' σ' Hi H, Rel l.K L Hi0 B Hi σ' H ρ' → ∀ c fs cls d Hi' H', x c fs → Grow L Hi H Hi' H' → L.ok H' → l.XR c fs cls d Hi' H' → l.W cls d σ' H'
/-- what is fixed stays fixed, what stands stands -/
structure Adv (Hi H Hi' H' : Hp) : Prop where
  mono : Same Hi Hi'
  dom : ∀ a, H' a = none → H a = none
def AfterF (K : PySem.W.Frag) (L : Loc) (Hi0 B Hi H : Hp) (k : KF) (D : Ends) : Prop := ∀ fl, k fl → match fl with
  | .nx ρ' => ∀ σ' Hi' H', Rel K L Hi0 B Hi' σ' H' ρ' → Adv Hi H Hi' H' → D.nx σ' H'
  | .bk ρ' => ∀ σ' Hi' H', Rel K L Hi0 B Hi' σ' H' ρ' → Adv Hi H Hi' H' → D.bk σ' H'
  | .ct ρ' => ∀ σ' Hi' H', Rel K L Hi0 B Hi' σ' H' ρ' → Adv Hi H Hi' H' → D.ct σ' H'
  | .rt a => ∀ v Hi' H', Grow L Hi0 B Hi' H' → L.ok H' → AvOk K L B B Hi' H' v a → D.rt v H'
def tS (l : Lay) (x : KX) (f : List SV → KF → Prop) : TS := fun D σ H => ∃ L Hi0 B Hi ρ k, Sts l x L Hi0 B Hi σ H ρ ∧ f ρ k ∧ AfterF l.K L Hi0 B Hi H k D
section
variable {l : Lay} {x : KX} {K : PySem.W.Frag} {L : Loc} {Hi0 B Hs Hi H Hi' H' Hi1 H1 : Hp} {σ : L2.St} {ρ : List SV} {D : Ends} {k : KF}
theorem Adv.refl : Adv Hi H Hi H := ⟨Same.refl _, fun _ h => h⟩
theorem Adv.trans (a : Adv Hi H Hi1 H1) (b : Adv Hi1 H1 Hi' H') : Adv Hi H Hi' H' := ⟨a.mono.trans b.mono, fun p h => a.dom p (b.dom p h)⟩
theorem Grow.adv (g : Grow L Hi H Hi' H') : Adv Hi H Hi' H' := ⟨g.mono, g.dom⟩
theorem Sts.stt (s : Sts l x L Hi0 B Hi σ H ρ) : Stt l x L Hi0 B Hi σ H ρ := ⟨s.k, s.r, s.e ρ σ Hi H s.r⟩
theorem Sts.to (s : Sts l x L Hi0 B Hi σ H ρ) {σ' : L2.St} {ρ' : List SV} (r : Rel l.K L Hi0 B Hi' σ' H' ρ') : Sts l x L Hi0 B Hi' σ' H' ρ' := ⟨s.k, r, s.e⟩
theorem AfterF.later (h : AfterF K L Hi0 B Hi H k D) (g : Adv Hi H Hi' H') : AfterF K L Hi0 B Hi' H' k D := fun fl hk => by
  have q := h fl hk
  cases fl with
  | nx ρ' => exact fun σ' Hi2 H2 r a => q σ' Hi2 H2 r (g.trans a)
  | bk ρ' => exact fun σ' Hi2 H2 r a => q σ' Hi2 H2 r (g.trans a)
  | ct ρ' => exact fun σ' Hi2 H2 r a => q σ' Hi2 H2 r (g.trans a)
  | rt a => exact q
/-- slots set from the left -/
def setVs : List Nat → List V → L2.St → L2.St
  | i :: is, v :: vs, σ => setVs is vs (σ.set i (some v))
  | _, _, σ => σ
theorem gNames_set : ∀ {is : List Nat} {vs : List V} {σ : L2.St} {Q : L2.St → Hp → Prop}, vs.length = is.length → Q (setVs is vs σ) H → gNames is vs σ H Q
  | [], [], _, _, _, q => ⟨rfl, q⟩
  | [], _ :: _, _, _, h, _ => nomatch h
  | _ :: _, [], _, _, h, _ => nomatch h
  | i :: is, v :: vs, _, _, h, q => ⟨v, vs, rfl, gNames_set (is := is) (by simpa using h) q⟩
theorem setA_ok (hB : ∀ p, Hs p = none → B p = none) : ∀ {is : List Nat} {vs : List V} {as : List AV} {σ : L2.St} {ρ : List SV} {k : List SV → Prop}, Rel K L Hi0 B Hi σ H ρ → LsOk K L B Hs Hi H vs as →
    (∀ (j : Nat) r a, ρ[j]? = some r → isOwn r = true → σ[j]? = some (some (V.ref a)) → ∀ (i : Nat) b, as[i]? = some b → isNew b = true → vs[i]? ≠ some (V.ref a)) → setA is as ρ k →
    vs.length = is.length ∧ ∃ ρ', k ρ' ∧ Rel K L Hi0 B Hi (setVs is vs σ) H ρ'
  | [], _, [], σ, ρ, k, r, ls, _, h => by
    cases ls
    exact ⟨rfl, ρ, h, r⟩
  | [], _, _ :: _, _, _, _, _, _, _, h => h.elim
  | _ :: _, _, [], _, _, _, _, _, _, h => h.elim
  | i :: is, _, a :: as, σ, ρ, k, r, .cons (v := v) (vs := vs) ha hn t, fr, h => by
    have h : setW ρ i a fun ρ' => setA is as ρ' k := h
    -- one slot is set; the rest as before
    have next : ∀ q : SV, SvOk K L B Hi H (some v) q → (isOwn q = true → isNew a = true) → setA is as (ρ.set i q) k → (v :: vs).length = (i :: is).length ∧ ∃ ρ', k ρ' ∧ Rel K L Hi0 B Hi (setVs (i :: is) (v :: vs) σ) H ρ' := fun q hq ho hr => by
      have r2 : Rel K L Hi0 B Hi (σ.set i (some v)) H (ρ.set i q) := r.put hq fun z j p b hj e1 e2 e3 e4 => fr j p b e1 e2 e3 0 a (by simp) (ho z) (by simpa using e4)
      have fr2 : ∀ (j : Nat) r' b, (ρ.set i q)[j]? = some r' → isOwn r' = true → (σ.set i (some v))[j]? = some (some (V.ref b)) → ∀ (m : Nat) c, as[m]? = some c → isNew c = true → vs[m]? ≠ some (V.ref b) := fun j r' b e1 e2 e3 m c e4 e5 => by
        by_cases hj : i = j
        · subst hj
          by_cases hl : i < ρ.length
          · rw [List.getElem?_set_self hl] at e1
            cases e1
            rw [List.getElem?_set_self (by rw [← r.len]; exact hl)] at e3
            have ev : v = .ref b := Option.some.inj (Option.some.inj e3)
            subst ev
            exact hn (ho e2) m c e4 e5
          · rw [List.getElem?_eq_none (by simpa using hl)] at e1
            cases e1
        · rw [List.getElem?_set_ne hj] at e1 e3
          have := fr j r' b e1 e2 e3 (m + 1) c (by simpa using e4) e5
          simpa using this
      obtain ⟨l1, ρ', h1, h2⟩ := setA_ok hB r2 t fr2 hr
      exact ⟨by rw [List.length_cons, List.length_cons, l1], ρ', h1, h2⟩
    cases a with
    | d y => exact next (.d y) ⟨v, rfl, ha⟩ (fun z => nomatch z) h
    | src => exact next .src (congrArg some ha) (fun z => nomatch z) h
    | new xs =>
      obtain ⟨p, ws, rfl, h1, h2, h3, h4⟩ := ha
      exact next (.own xs) ⟨p, ws, rfl, hB p h1, h2, h3, h4⟩ (fun _ => rfl) h
    | bor xs => exact h.elim
/-- what a slot holds was there at the start -/
theorem Rel.old (r : Rel K L Hi0 B Hi σ H ρ) {vs : List V} {as : List AV} (ls : LsOk K L B H Hi' H' vs as) : ∀ (j : Nat) q a, ρ[j]? = some q → isOwn q = true → σ[j]? = some (some (V.ref a)) → ∀ (i : Nat) b, as[i]? = some b → isNew b = true → vs[i]? ≠ some (V.ref a) := fun j q a e1 e2 e3 i b e4 e5 e6 => by
  obtain ⟨v, h1, h2⟩ := r.slot j q e1
  rw [e3] at h1
  cases h1
  cases q with
  | own xs =>
    obtain ⟨p, ws, e, g1, g2, g3, g4⟩ := h2
    cases e
    have h := ls.get e6 e4
    cases b with
    | new ys =>
      obtain ⟨p', ws', e', f1, _⟩ := h
      cases e'
      rw [f1] at g3
      cases g3
    | _ => cases e5
  | _ => cases e2
theorem rs_par {fs : List SV → (List AV → Prop) → Prop} {is : List Nat} (h : tS l x (fun ρ k => fs ρ fun as => setA is as ρ fun ρ' => k (.nx ρ')) D σ H) :
    tL l x fs σ H fun vs H1 => vs.length = is.length ∧ D.nx (setVs is vs σ) H1 := by
  obtain ⟨L, Hi0, B, Hi, ρ, k, s, hf, ha⟩ := h
  refine ⟨L, Hi0, B, Hi, ρ, _, s.stt, hf, fun as has vs Hi1 H1 g1 ok1 hvs => ?_⟩
  obtain ⟨l1, ρ', h1, h2⟩ := setA_ok (Hs := H) s.r.g.dom (s.r.step g1 ok1) hvs (s.r.old hvs) has
  exact ⟨l1, ha _ h1 _ _ _ h2 g1.adv⟩
theorem rs_set {f : List SV → KA → Prop} {i : Nat} (h : tS l x (fun ρ k => f ρ fun a => setW ρ i a fun ρ' => k (.nx ρ')) D σ H) : tAsg (tV l x f) (gName i) D σ H := by
  obtain ⟨L, Hi0, B, Hi, ρ, k, s, hf, ha⟩ := h
  refine ⟨L, Hi0, B, Hi, ρ, _, s.stt, hf, fun a hset v Hi1 H1 g1 ok1 hv => ?_⟩
  have ls : LsOk l.K L B H Hi1 H1 [v] [a] := .cons hv (fun _ i b e => by simp at e) .nil
  obtain ⟨l1, ρ', h1, h2⟩ := setA_ok (is := [i]) (k := fun ρ' => k (.nx ρ')) (Hs := H) s.r.g.dom (s.r.step g1 ok1) ls (s.r.old ls) hset
  exact ha _ h1 _ _ _ h2 g1.adv
theorem rs_parT {fs : List SV → (List AV → Prop) → Prop} {is : List Nat} (hz : is.length ≤ sizeLine) (h : tS l x (fun ρ k => fs ρ fun as => setA is as ρ fun ρ' => k (.nx ρ')) D σ H) : tAsg (tTup (tL l x fs)) (gSq l.K is.length (gNames is)) D σ H := by
  obtain ⟨L, Hi0, B, Hi, ρ, k, s, hf, ha⟩ := h
  refine ⟨L, Hi0, B, Hi, ρ, _, s.stt, hf, fun as has vs Hi1 H1 g1 ok1 hvs => ?_⟩
  obtain ⟨l1, ρ', h1, h2⟩ := setA_ok (Hs := H) s.r.g.dom (s.r.step g1 ok1) hvs (s.r.old hvs) has
  refine ⟨by rw [l1]; exact hz, fun p hp => ⟨p, vs, rfl, .inl (SqT.of upd_same), l1, gNames_set l1 ?_⟩⟩
  have gl := Grow.laid' (L := L) (o := .tup vs) g1.sub hp
  exact ha _ h1 _ _ _ (h2.step gl (L.okNew ok1 hp)) (g1.adv.trans gl.adv)
theorem rs_unp {f : List SV → KA → Prop} {is : List Nat} (h : tS l x (fun ρ k => f ρ fun a => ∃ xs, a.items? = some xs ∧ ∃ ρ', setD is xs ρ = some ρ' ∧ k (.nx ρ')) D σ H) : tAsg (tV l x f) (gSq l.K is.length (gNames is)) D σ H := by
  obtain ⟨L, Hi0, B, Hi, ρ, k, s, hf, ha⟩ := h
  refine ⟨L, Hi0, B, Hi, ρ, _, s.stt, hf, fun a hset v Hi1 H1 g1 ok1 hv => ?_⟩
  obtain ⟨xs, ei, ρ', e, hk⟩ := hset
  have main : ∀ {a : Addr} {vs : List V}, (SqT l.K H1 a vs ∨ SqL l.K H1 a vs) → DqAll l.K Hi1 vs xs → gSq l.K is.length (gNames is) (.ref a) σ H1 D.nx := fun {a vs} hq h2 => by
    obtain ⟨l1, q⟩ := names_ok (Qg := D.nx) (s.r.step g1 ok1) h2 e fun σ1 r1 _ => ha _ hk _ _ _ r1 g1.adv
    exact ⟨_, _, rfl, hq, l1, q⟩
  cases a with
  | d y =>
    cases y with
    | tuple ys =>
      cases ei
      have hv : Dq l.K Hi1 v (.tuple xs) := hv
      cases hv with
      | tup h1 h2 => exact main (.inl (sqT_mono g1.sub h1)) h2
    | list ys =>
      cases ei
      have hv : Dq l.K Hi1 v (.list xs) := hv
      cases hv with
      | lst h1 h2 => exact main (.inr (SqL.of (g1.sub _ _ h1))) h2
    | _ => cases ei
  | new ys =>
    cases ei
    obtain ⟨p, vs, rfl, h3, h4⟩ := hv.list g1.sub rfl
    exact main (.inr (SqL.of h3)) h4
  | bor ys =>
    cases ei
    obtain ⟨p, vs, rfl, h3, h4⟩ := hv.list g1.sub rfl
    exact main (.inr (SqL.of h3)) h4
  | src => cases ei
theorem rs_ret {f : List SV → KA → Prop} (h : tS l x (fun ρ k => f ρ fun a => k (.rt a)) D σ H) : tRet (tV l x f) D σ H := by
  obtain ⟨L, Hi0, B, Hi, ρ, k, s, hf, ha⟩ := h
  refine ⟨L, Hi0, B, Hi, ρ, _, s.stt, hf, fun a hk v Hi1 H1 g1 ok1 hv => ?_⟩
  exact ha _ hk v Hi1 H1 (s.r.g.trans g1) ok1 (hv.early s.r.g.dom)
theorem rs_retN (h : tS l x (fun _ k => k (.rt (.d .none))) D σ H) : tRetN D σ H := by
  obtain ⟨L, Hi0, B, Hi, ρ, k, s, hf, ha⟩ := h
  exact ha _ hf _ Hi H s.r.g s.r.src .non
theorem rs_drop {f : List SV → KA → Prop} (h : tS l x (fun ρ k => f ρ fun _ => k (.nx ρ)) D σ H) : tDrop (tV l x f) D σ H := by
  obtain ⟨L, Hi0, B, Hi, ρ, k, s, hf, ha⟩ := h
  exact ⟨L, Hi0, B, Hi, ρ, _, s.stt, hf, fun a hk v Hi1 H1 g1 ok1 hv => ha _ hk _ _ _ (s.r.step g1 ok1) g1.adv⟩
theorem rs_if {c : List SV → (Bool → Prop) → Prop} {f g : List SV → KF → Prop} (h : tS l x (fun ρ k => c ρ fun t => if t = true then f ρ k else g ρ k) D σ H) : tIfS (tT l x c) (tS l x f) (tS l x g) D σ H := by
  obtain ⟨L, Hi0, B, Hi, ρ, k, s, hf, ha⟩ := h
  refine ⟨L, Hi0, B, Hi, ρ, _, s.stt, hf, fun t ht Hi1 H1 g1 ok1 => ?_⟩
  cases t with
  | true => exact ⟨L, Hi0, B, Hi1, ρ, k, s.to (s.r.step g1 ok1), ht, ha.later g1.adv⟩
  | false => exact ⟨L, Hi0, B, Hi1, ρ, k, s.to (s.r.step g1 ok1), ht, ha.later g1.adv⟩
theorem rs_nx (h : tS l x (fun ρ k => k (.nx ρ)) D σ H) : tNext D σ H := by
  obtain ⟨L, Hi0, B, Hi, ρ, k, s, hf, ha⟩ := h
  exact ha _ hf _ _ _ s.r Adv.refl
theorem rs_bk (h : tS l x (fun ρ k => k (.bk ρ)) D σ H) : tBreak D σ H := by
  obtain ⟨L, Hi0, B, Hi, ρ, k, s, hf, ha⟩ := h
  exact ha _ hf _ _ _ s.r Adv.refl
theorem rs_ct (h : tS l x (fun ρ k => k (.ct ρ)) D σ H) : tCont D σ H := by
  obtain ⟨L, Hi0, B, Hi, ρ, k, s, hf, ha⟩ := h
  exact ha _ hf _ _ _ s.r Adv.refl
theorem rs_cons {f g : List SV → KF → Prop} (h : tS l x (fun ρ k => f ρ fun fl => match fl with
    | .nx ρ' => g ρ' k
    | o => k o) D σ H) : tSeq (tS l x f) (tS l x g) D σ H := by
  obtain ⟨L, Hi0, B, Hi, ρ, k, s, hf, ha⟩ := h
  refine ⟨L, Hi0, B, Hi, ρ, _, s, hf, fun fl hk => ?_⟩
  cases fl with
  | nx ρ' => exact fun σ' Hi' H' r a => ⟨L, Hi0, B, Hi', ρ', k, s.to r, hk, ha.later a⟩
  | bk ρ' => exact ha _ hk
  | ct ρ' => exact ha _ hk
  | rt a => exact ha _ hk
/-- a list of one's own is changed -/
theorem Rel.write (r : Rel K L Hi0 B Hi σ H ρ) {i : Nat} {p : Addr} {ws : List V} {xs ys : List PyData} (e : ρ[i]? = some (.own xs)) (ep : σ[i]? = some (some (V.ref p))) (hb : B p = none) (hn : Hi p = none) (d : DqAll K Hi ws ys) :
    Rel K L Hi0 B Hi σ (L2.upd H p (.lst ws)) (ρ.set i (.own ys)) where
  g := r.g.wrote hb hn
  src := L.okUpd r.src (Loc.nofoot r.srcB p hb)
  srcB := r.srcB
  av0 := r.av0
  len := by rw [List.length_set]; exact r.len
  slot := fun j q eq => by
    have hl : i < ρ.length := (List.getElem?_eq_some_iff.mp e).1
    by_cases hj : i = j
    · subst hj
      rw [List.getElem?_set_self hl] at eq
      cases eq
      exact ⟨_, ep, p, ws, rfl, hb, hn, upd_same, d⟩
    · rw [List.getElem?_set_ne hj] at eq
      obtain ⟨v, h1, h2⟩ := r.slot j q eq
      refine ⟨v, h1, ?_⟩
      cases q with
      | own zs =>
        obtain ⟨a, us, rfl, g1, g2, g3, g4⟩ := h2
        have hne : a ≠ p := fun z => by
          subst z
          exact r.apart i j _ _ a hj e eq rfl rfl ep h1
        exact ⟨a, us, rfl, g1, g2, by rw [upd_ne hne]; exact g3, g4⟩
      | _ => exact h2
  apart := fun j m q q' a hjm e1 e2 o1 o2 s1 s2 => by
    have own : ∀ (j : Nat) q, (ρ.set i (.own ys))[j]? = some q → isOwn q = true → ∃ q', ρ[j]? = some q' ∧ isOwn q' = true := fun j q e1 o1 => by
      by_cases hj : i = j
      · subst hj
        exact ⟨_, e, rfl⟩
      · rw [List.getElem?_set_ne hj] at e1
        exact ⟨q, e1, o1⟩
    obtain ⟨u, f1, f2⟩ := own j q e1 o1
    obtain ⟨u', f1', f2'⟩ := own m q' e2 o2
    exact r.apart j m u u' a hjm f1 f1' f2 f2' s1 s2
theorem Rel.ownAt (r : Rel K L Hi0 B Hi σ H ρ) {i : Nat} {xs : List PyData} (e : ρ[i]? = some (.own xs)) : ∃ p ws, σ[i]? = some (some (V.ref p)) ∧ B p = none ∧ Hi p = none ∧ H p = some (.lst ws) ∧ DqAll K Hi ws xs := by
  obtain ⟨v, h1, p, ws, rfl, h2⟩ := r.slot i _ e
  exact ⟨p, ws, h1, h2⟩
theorem rs_put {f g : List SV → KA → Prop} {i : Nat} (h : tS l x (fun ρ k => f ρ fun a => ∃ y, a.emb? = some y ∧ ∃ xs, ρ[i]? = some (.own xs) ∧ g ρ fun p => Un.intW p fun n => ∃ m, ixOf xs.length n = some m ∧ k (.nx (ρ.set i (.own (xs.set m y))))) D σ H) :
    tAsg (tV l x f) (gSub (tVar i) (tV l x g) rSetL) D σ H := by
  obtain ⟨L, Hi0, B, Hi, ρ, k, s, hf, ha⟩ := h
  refine ⟨L, Hi0, B, Hi, ρ, _, s.stt, hf, fun a hset v Hi1 H1 g1 ok1 hv => ?_⟩
  obtain ⟨y, ey, xs, ex, hset⟩ := hset
  obtain ⟨Hi2, g2, s2, d2, k2⟩ := hv.fix (His := Hi) g1 ey
  have r2 := s.r.step g2 ok1
  obtain ⟨p, ws, ep, b1, b2, b3, b4⟩ := r2.ownAt ex
  refine ⟨_, ep, L, Hi0, B, Hi2, ρ, _, (s.to r2).stt, hset, fun q hq u Hi3 H3 g3 ok3 hu => ?_⟩
  obtain ⟨n, rfl, m, hm, hk⟩ := hu.intW hq
  have r3 := r2.step g3 ok3
  obtain ⟨p', ws', ep', c1, c2, c3, c4⟩ := r3.ownAt ex
  rw [ep] at ep'
  cases ep'
  refine ⟨p, ws', n, m, rfl, rfl, c3, by rw [c4.len]; exact hm, ?_⟩
  have r4 := r3.write ex ep c1 c2 (DqAll.set (Dq.mono g3.mono _ _ d2) m c4)
  refine ha _ hk _ _ _ r4 ((g2.adv.trans g3.adv).trans ⟨Same.refl _, fun b e => ?_⟩)
  by_cases eb : b = p
  · rw [eb, upd_same] at e
    cases e
  · rw [upd_ne eb] at e
    exact e
theorem rs_app {f : List SV → KA → Prop} {i : Nat} (h : tS l x (fun ρ k => ∃ xs, ρ[i]? = some (.own xs) ∧ f ρ fun a => ∃ y, a.emb? = some y ∧ xs.length < sizeLine ∧ k (.nx (ρ.set i (.own (xs ++ [y]))))) D σ H) :
    tDrop (tBM l.K "list" rAppend (tVar i) (tCons (tV l x f) tNil)) D σ H := by
  obtain ⟨L, Hi0, B, Hi, ρ, k, s, ⟨xs, ex, hf⟩, ha⟩ := h
  obtain ⟨p, ws, ep, b1, b2, b3, b4⟩ := s.r.ownAt ex
  refine ⟨_, ep, ?_, L, Hi0, B, Hi, ρ, _, s.stt, hf, fun a hset v Hi1 H1 g1 ok1 hv => ?_⟩
  · exact .inl ⟨rfl, ws, SqL.of b3⟩
  obtain ⟨y, ey, hz, hk⟩ := hset
  obtain ⟨Hi2, g2, s2, d2, k2⟩ := hv.fix (His := Hi) g1 ey
  have r2 := s.r.step g2 ok1
  obtain ⟨p', ws', ep', c1, c2, c3, c4⟩ := r2.ownAt ex
  rw [ep] at ep'
  cases ep'
  refine ⟨p, ws', v, rfl, rfl, c3, by rw [c4.len]; exact hz, ?_⟩
  have r4 := r2.write ex ep c1 c2 (c4.snoc d2)
  refine ha _ hk _ _ _ r4 (g2.adv.trans ⟨Same.refl _, fun b e => ?_⟩)
  by_cases eb : b = p
  · rw [eb, upd_same] at e
    cases e
  · rw [upd_ne eb] at e
    exact e
/-- a list of one's own is fixed from now on (nothing runs) -/
theorem Rel.frz (r : Rel K L Hi0 B Hi σ H ρ) {i : Nat} {xs : List PyData} (e : ρ[i]? = some (.own xs)) : ∃ Hi', Rel K L Hi0 B Hi' σ H (ρ.set i (.d (.list xs))) ∧ Adv Hi H Hi' H := by
  obtain ⟨p, ws, ep, b1, b2, b3, b4⟩ := r.ownAt e
  have hl : i < ρ.length := (List.getElem?_eq_some_iff.mp e).1
  have up : Same Hi (L2.upd Hi p (.lst ws)) := fun b u z => by rw [upd_ne (ne_of_none z b2)]; exact z
  refine ⟨L2.upd Hi p (.lst ws), ⟨r.g.fixed b3 b1 b2, r.src, r.srcB, r.av0, by rw [List.length_set]; exact r.len, fun j q eq => ?_, fun j m q q' a hjm e1 e2 o1 o2 s1 s2 => ?_⟩, ⟨up, fun _ h => h⟩⟩
  · by_cases hj : i = j
    · subst hj
      rw [List.getElem?_set_self hl] at eq
      cases eq
      exact ⟨_, ep, _, rfl, .lst upd_same (DqAll.upd b2 b4)⟩
    · rw [List.getElem?_set_ne hj] at eq
      obtain ⟨v, h1, h2⟩ := r.slot j q eq
      refine ⟨v, h1, ?_⟩
      cases q with
      | own zs =>
        obtain ⟨a, us, rfl, g1, g2, g3, g4⟩ := h2
        have hne : a ≠ p := fun z => by
          subst z
          exact r.apart i j _ _ a hj e eq rfl rfl ep h1
        exact ⟨a, us, rfl, g1, by rw [upd_ne hne]; exact g2, g3, DqAll.mono up _ _ g4⟩
      | d z =>
        obtain ⟨u, e1, e2⟩ := h2
        exact ⟨u, e1, Dq.mono up _ _ e2⟩
      | un => exact h2
      | src => exact h2
  · have own : ∀ (j : Nat) q, (ρ.set i (.d (.list xs)))[j]? = some q → isOwn q = true → ρ[j]? = some q := fun j q e1 o1 => by
      by_cases hj : i = j
      · subst hj
        rw [List.getElem?_set_self hl] at e1
        cases e1
        cases o1
      · rwa [List.getElem?_set_ne hj] at e1
    exact r.apart j m q q' a hjm (own j q e1 o1) (own m q' e2 o2) o1 o2 s1 s2
theorem rs_frz {g : List SV → KF → Prop} {i : Nat} (h : tS l x (fun ρ k => ∃ xs, ρ[i]? = some (.own xs) ∧ g (ρ.set i (.d (.list xs))) k) D σ H) : tS l x g D σ H := by
  obtain ⟨L, Hi0, B, Hi, ρ, k, s, ⟨xs, ex, hf⟩, ha⟩ := h
  obtain ⟨Hi', r2, a2⟩ := s.r.frz ex
  exact ⟨L, Hi0, B, Hi', _, k, s.to r2, hf, ha.later a2⟩
theorem rs_for {wi : List SV → (List PyData → Prop) → Prop} {tg : Tg} {f : List SV → KF → Prop} (h : tS l x (fun ρ k => wi ρ fun xs => loopW tg f xs ρ k) D σ H) : tFor (tI l x wi) (gTg l.K tg) (tS l x f) D σ H := by
  obtain ⟨L, Hi0, B, Hi, ρ, k, s, hf, ha⟩ := h
  refine ⟨L, Hi0, B, Hi, ρ, _, s.stt, hf, fun xs hxs J Hi1 H1 g1 ok1 it => ?_⟩
  refine ⟨fun i m σ' H' => m = xs.length - i ∧ i ≤ xs.length ∧ ∃ Hi' ρ', Rel l.K L Hi0 B Hi' σ' H' ρ' ∧ Adv Hi1 H1 Hi' H' ∧ loopW tg f (xs.drop i) ρ' k, ⟨_, rfl, Nat.zero_le _, Hi1, ρ, s.r.step g1 ok1, Adv.refl, hxs⟩, ?_⟩
  rintro i m σ' H' ⟨rfl, hi, Hi', ρ', r, a, hl⟩
  rcases Nat.lt_or_ge i xs.length with hlt | hge
  · refine .inr ⟨it.go i Hi' H' a.mono r.g.sub a.dom r.src hlt, fun σ2 H2 => ∃ Hi2 ρ2, Rel l.K L Hi0 B Hi2 σ2 H2 ρ2 ∧ Adv Hi1 H1 Hi2 H2 ∧ loopW tg f (xs.drop (i + 1)) ρ2 k, fun σ2 H2 h2 => ⟨xs.length - (i + 1), by omega, rfl, hlt, h2⟩, fun y H2 hy => ?_⟩
    have hget : xs[i]? = some xs[i] := List.getElem?_eq_getElem hlt
    obtain ⟨Hi2, g3, ok3, dy⟩ := it.yld i Hi' H' xs[i] y H2 a.mono r.g.sub a.dom r.src hget hy
    rw [List.drop_eq_getElem_cons hlt] at hl
    obtain ⟨ρ1, e1, hl⟩ := hl
    refine tg_ok (r.step g3 ok3) dy e1 fun σ1 r1 _ => ⟨L, Hi0, B, Hi2, ρ1, _, s.to r1, hl, fun fl hk => ?_⟩
    have a2 := a.trans g3.adv
    cases fl with
    | nx ρ2 => exact fun σ3 Hi3 H3 r3 a3 => ⟨Hi3, ρ2, r3, a2.trans a3, hk⟩
    | ct ρ2 => exact fun σ3 Hi3 H3 r3 a3 => ⟨Hi3, ρ2, r3, a2.trans a3, hk⟩
    | bk ρ2 => exact fun σ3 Hi3 H3 r3 a3 => ha _ hk σ3 Hi3 H3 r3 ((g1.adv.trans a2).trans a3)
    | rt av => exact ha _ hk
  · have ei : i = xs.length := by omega
    subst ei
    rw [List.drop_length] at hl
    exact .inl ⟨it.stop _ Hi' H' a.mono r.g.sub a.dom r.src rfl, ha _ hl _ _ _ r (g1.adv.trans a)⟩
theorem rs_whl {c : List SV → (Bool → Prop) → Prop} {f : List SV → KF → Prop} (h : tS l x (fun ρ k => ∃ n, whlW c f n ρ k) D σ H) : tWhile (tT l x c) (tS l x f) D σ H := by
  obtain ⟨L, Hi0, B, Hi, ρ, k, s, ⟨n, hf⟩, ha⟩ := h
  refine ⟨fun m σ' H' => ∃ Hi' ρ', Rel l.K L Hi0 B Hi' σ' H' ρ' ∧ Adv Hi H Hi' H' ∧ whlW c f m ρ' k, ⟨n, Hi, ρ, s.r, Adv.refl, hf⟩, ?_⟩
  rintro m σ' H' ⟨Hi', ρ', r, a, hw⟩
  cases m with
  | zero => exact hw.elim
  | succ m =>
    have hw : c ρ' fun t => if t = true then f ρ' (fun fl => match fl with
      | .nx ρ2 => whlW c f m ρ2 k
      | .ct ρ2 => whlW c f m ρ2 k
      | .bk ρ2 => k (.nx ρ2)
      | .rt a => k (.rt a)) else k (.nx ρ') := hw
    refine ⟨L, Hi0, B, Hi', ρ', _, (s.to r).stt, hw, fun t ht Hi1 H1 g1 ok1 => ?_⟩
    cases t with
    | false => exact ha _ ht _ _ _ (r.step g1 ok1) (a.trans g1.adv)
    | true =>
      refine ⟨fun σ2 H2 => ∃ Hi2 ρ2, Rel l.K L Hi0 B Hi2 σ2 H2 ρ2 ∧ Adv Hi H Hi2 H2 ∧ whlW c f m ρ2 k, fun σ2 H2 h2 => ⟨m, Nat.lt_succ_self m, h2⟩, L, Hi0, B, Hi1, ρ', _, s.to (r.step g1 ok1), ht, fun fl hk => ?_⟩
      have a2 := a.trans g1.adv
      cases fl with
      | nx ρ2 => exact fun σ3 Hi3 H3 r3 a3 => ⟨Hi3, ρ2, r3, a2.trans a3, hk⟩
      | ct ρ2 => exact fun σ3 Hi3 H3 r3 a3 => ⟨Hi3, ρ2, r3, a2.trans a3, hk⟩
      | bk ρ2 => exact fun σ3 Hi3 H3 r3 a3 => ha _ hk σ3 Hi3 H3 r3 (a2.trans a3)
      | rt av => exact ha _ hk
end
end Un
end
section
/-! Un: statements: the checker and what it means. -/
namespace Un
open PySem PySem.Spec L2

structure Cs where
  s : Stmt → Bool
  b : List Stmt → Bool
def noS : Cs := ⟨fun _ => false, fun _ => false⟩
def setS (nc : Nc) (sc : Scope) (i : Nat) (ve lb : Expr → Bool) (st : Stmt) : Bool := match asAsg st with
  | some (.Name y py, e, _) => setB nc sc i y py ve e || setLcB nc sc i y py lb e
  | _ => false
def lcOf (nc : Nc) (sc : Scope) : E → Expr → Bool
  | .cmp own elt tg it c, e => lcB nc own tg (isNo c) (chk nc elt).v (chk nc it).i (chk nc c).t sc e
  | _, _ => false
def unpS (nc : Nc) (sc : Scope) (is : List Nat) (ve : Expr → Bool) (st : Stmt) : Bool := match asAsg st with
  | some (t, e, _) => tgB nc sc (.tp is) t && ve e && (asTup e).isNone
  | none => false
def nodupB : List Nat → Bool
  | [] => true
  | i :: r => !r.contains i && nodupB r
def parS (nc : Nc) (sc : Scope) (is : List Nat) (ca : List Expr → Bool) (st : Stmt) : Bool := match asAsg st with
  | some (t, e, _) => (match asTup t, asTup e with
    | some ts, some vs => tgB nc sc (.tp is) t && ca vs && vs.all notStar && decide (is.length ≤ 1000) && (parTup sc ts vs || (parSwap sc ts vs && nodupB is && (match is, parNames sc ts with
      | [i, j], [x, y] => decide (nc.N[i]? = some x) && decide (nc.N[j]? = some y) && decide (sc.names.lookup x = some .local) && decide (sc.names.lookup y = some .local) && decide (ts.filterMap asName = [x, y]) && (vs.length == 2)
      | [i, j, m], [x, y, z] => decide (nc.N[i]? = some x) && decide (nc.N[j]? = some y) && decide (nc.N[m]? = some z) && decide (sc.names.lookup x = some .local) && decide (sc.names.lookup y = some .local) && decide (sc.names.lookup z = some .local) &&
        decide (ts.filterMap asName = [x, y, z]) && (vs.length == 3)
      | _, _ => false)))
    | _, _ => false)
  | none => false
def putS (nc : Nc) (sc : Scope) (i : Nat) (vj ve : Expr → Bool) (st : Stmt) : Bool := match asAsg st with
  | some (t, e, _) => (match asSub t with
    | some (o, ix) => (match asName o with
      | some x => varB nc sc i x && notSlc ix && vj ix && ve e
      | none => false)
    | none => false)
  | none => false
def appS (nc : Nc) (sc : Scope) (i : Nat) (ve : Expr → Bool) (st : Stmt) : Bool := match asExp st with
  | some (e, _) => (match asApp e with
    | some (x, v, ap, cp) => varB nc sc i x && notStar v && ve v && (ap.endLine == cp.line)
    | none => false)
  | none => false
def chkS (nc : Nc) (sc : Scope) : Sm → Cs
  | .set i e => { noS with s := setS nc sc i ((chk nc e).v sc) (lcOf nc sc e) }
  | .unp is e => { noS with s := unpS nc sc is ((chk nc e).v sc) }
  | .par is es => { noS with s := parS nc sc is ((chk nc es).a sc) }
  | .put i j e => { noS with s := putS nc sc i ((chk nc j).v sc) ((chk nc e).v sc) }
  | .app i e => { noS with s := appS nc sc i ((chk nc e).v sc) }
  | .ret e => { noS with s := fun st => match asRet st with
    | some (some v) => (chk nc e).v sc v
    | _ => false }
  | .retN => { noS with s := fun st => match asRet st with
    | some none => true
    | _ => false }
  | .drop e => { noS with s := fun st => match asExp st with
    | some (v, _) => (chk nc e).v sc v && !isCompr v
    | _ => false }
  | .ifs c a b => { noS with s := fun st => match asIfS st with
    | some (ec, sa, sb) => (chk nc c).t sc ec && (chkS nc sc a).b sa && (chkS nc sc b).b sb
    | none => false }
  | .loop tg it b => { noS with s := fun st => match asFor st with
    | some (t, i, sb) => tgB nc sc tg t && (chk nc it).i sc t i && (chkS nc sc b).b sb
    | none => false }
  | .whl c b => { noS with s := fun st => match asWhl st with
    | some (ec, sb) => (chk nc c).t sc ec && (chkS nc sc b).b sb
    | none => false }
  | .brk => { noS with s := fun st => match st with
    | .Break _ => true
    | _ => false }
  | .cnt => { noS with s := fun st => match st with
    | .Continue _ => true
    | _ => false }
  | .pass => { noS with s := fun st => match st with
    | .Pass _ => true
    | _ => false }
  | .frz _ => noS
  | .nil => { noS with b := fun sts => sts.isEmpty }
  | .cons (.frz _) r => { noS with b := fun sts => (chkS nc sc r).b sts }
  | .cons s r => { noS with b := fun sts => match sts with
    | st :: sts => (chkS nc sc s).s st && (chkS nc sc r).b sts
    | [] => false }
structure SFit (X : Cx) (nc : Nc) (sc : Scope) (l : Lay) (fe : FE) : Prop where
  f : Fit X nc sc l fe
  fn : ∀ x, X.fn x = true
  po : PassesOwn (model X.prog X.w) X.A X.env X.xe
structure SSnd (X : Cx) (l : Lay) (x : KX) (f : List SV → KF → Prop) (c : Cs) : Prop where
  s : ∀ st, c.s st = true → PS X st (tS l x f)
  b : ∀ sts, c.b sts = true → PSs X sts (tS l x f)
theorem _root_.L2.PS.imq {X : Cx} {e : Stmt} {t t' : TS} (h : PS X e t) (i : ∀ D σ H, t' D σ H → t D σ H) : PS X e t' := ⟨fun pins s σ H D I q => h.run pins s σ H D I (i _ _ _ q)⟩
theorem _root_.L2.PSs.imq {X : Cx} {e : List Stmt} {t t' : TS} (h : PSs X e t) (i : ∀ D σ H, t' D σ H → t D σ H) : PSs X e t' := ⟨fun pins s σ H D I q => h.run pins s σ H D I (i _ _ _ q)⟩
section
variable {nc : Nc} {fe : FE}
theorem SFit.own {X : Cx} {sc : Scope} {l : Lay} (F : SFit X nc sc l fe) : ∀ x, locB sc x = true → Own X x := fun x h => ⟨by rw [F.f.sc]; exact locB_eq h, .inl (F.fn x)⟩
theorem SFit.tg {X : Cx} {sc : Scope} {l : Lay} (F : SFit X nc sc l fe) {tg : Tg} {e : Expr} (h : tgB nc sc tg e = true) : PG X e (gTg l.K tg) := tgB_ok F.f.N F.f.nd F.f.K F.f.calm F.own h
theorem nodupB_eq : ∀ {is : List Nat}, nodupB is = true → is.Nodup
  | [], _ => List.nodup_nil
  | i :: r, h => by
    unfold nodupB at h
    rw [Bool.and_eq_true, Bool.not_eq_true'] at h
    refine List.nodup_cons.mpr ⟨fun z => ?_, nodupB_eq h.2⟩
    have := h.1
    rw [List.contains_iff_mem.mpr z] at this
    cases this
theorem ss_set {X : Cx} {sc : Scope} {l : Lay} {x : KX} (F : SFit X nc sc l fe) (i : Nat) (e : E) (st : Stmt) (h : setS nc sc i ((chk nc e).v sc) (lcOf nc sc e) st = true) : PS X st (tS l x (ex fe x (.set i e))) := by
  unfold setS at h
  split at h
  · rename_i y py v sp hx
    obtain rfl := asAsg_eq hx
    rw [Bool.or_eq_true] at h
    rcases h with h | h
    · unfold setB at h
      rw [Bool.and_eq_true, Bool.and_eq_true] at h
      obtain ⟨⟨h1, h2⟩, h3⟩ := h
      unfold ownB at h1
      rw [Bool.and_eq_true, decide_eq_true_eq] at h1
      have o := F.own y h1.2
      have hsw : swapsWith v (some (.Name y py)) sp.line X.env = pure false := by
        split at h3
        · rename_i el t it ifs scope pos hl
          have hl := asLc_eq hl
          subst hl
          exact sw_no (by rw [F.f.sc]; exact h3)
        · exact swaps_no (by simpa using h3) _ _ _
      exact (ps_set F.f.nd (by rw [F.f.N]; exact h1.1) o.1 ((snd e (x := x) F.f).v v h2) hsw o.2).imq fun D σ H q => rs_set q
    · unfold setLcB at h
      rw [Bool.and_eq_true, Bool.and_eq_true, decide_eq_true_eq] at h
      obtain ⟨⟨h0, h1⟩, h2⟩ := h
      cases e with
      | cmp own elt tg it c =>
        replace h1 : lcB nc own tg (isNo c) (chk nc elt).v (chk nc it).i (chk nc c).t sc v = true := h1
        unfold lcB at h1
        split at h1
        · rename_i el tge iter ifs scope pos hx
          rw [hx] at h2
          have hx := asLc_eq hx
          subst hx
          replace h2 : swB sc y py.line pos.line scope = true := h2
          unfold swB at h2
          simp only [Bool.and_eq_true, decide_eq_true_eq, Bool.not_eq_true'] at h2
          obtain ⟨⟨⟨w1, w2⟩, w3⟩, w4⟩ := h2
          simp only [Bool.and_eq_true] at h1
          obtain ⟨⟨⟨⟨⟨⟨q1, q2⟩, q3⟩, q4⟩, q5⟩, q6⟩, q7⟩ := h1
          have hown : tgIn tg own := by
            cases tg with
            | nm j =>
              show j ∈ own
              simpa using q3
            | tp is =>
              replace q3 : is.all own.contains = true := q3
              intro j hj
              have := List.all_eq_true.mp q3 j hj
              simpa using this
          have key := ps_setLc (X := X) (i := i) (y := y) (py := py) (spos := sp) (elt := el) (tg := tge) (iter := iter) (ifs := ifs) (scope := scope) (pos := pos) (own := ownOf nc.N own) (wi := tI l x (ev fe x it).i) (g := gTg l.K tg)
            (tt := tTs l (if isNo c = true then none else some (ev fe noX c).t)) (te := tV l.mute noX (ev fe noX elt).v) F.f.calm F.f.nd (by rw [F.f.N]; exact h0) (by rw [F.f.sc]; exact w2)
            (sw_true (by rw [F.f.sc]; exact w1) (by rw [F.f.sc]; exact w2) w3 w4) ((snd it (x := x) F.f).i tge iter q4).1
            (blkOk_by (by rw [F.f.N, F.f.sc]; exact q1))
            (fun s H C cl fp => tgB_ok (X := X.blk s H scope (compEnvC scope cl C X.env) fp) (nc := nc) (l := l) (sc := scope) F.f.N F.f.nd F.f.K F.f.calm (fun y hy => F.f.blkOwn s H scope cl C fp hy) q2)
            (fun s H C cl fp => by
              cases ifs with
              | nil =>
                replace q7 : isNo c = true := q7
                rw [if_pos q7]
                exact pts_nil
              | cons e0 r =>
                cases r with
                | nil =>
                  replace q7 : (!isNo c && (chk nc c).t (relS scope sc) e0) = true := q7
                  rw [Bool.and_eq_true, Bool.not_eq_true'] at q7
                  rw [if_neg (by rw [q7.1]; decide)]
                  exact pts_one ((snd c (x := noX) (F.f.blk s H scope cl C fp)).t e0 q7.2)
                | cons _ _ => cases q7)
            (fun s H C cl fp => (snd elt (x := noX) (F.f.blk s H scope cl C fp)).v el q6)
            (notSet_eq q5 X.env)
          rw [ownOf_map] at key
          refine key.imq fun D σ H q => ?_
          have q' := rs_set q
          exact rd_lc hown q'
        · cases h1
      | _ => cases h1
  · cases h
theorem ss_unp {X : Cx} {sc : Scope} {l : Lay} {x : KX} (F : SFit X nc sc l fe) (is : List Nat) (e : E) (st : Stmt) (h : unpS nc sc is ((chk nc e).v sc) st = true) : PS X st (tS l x (ex fe x (.unp is e))) := by
  unfold unpS at h
  split at h
  · rename_i t v sp hx
    obtain rfl := asAsg_eq hx
    rw [Bool.and_eq_true, Bool.and_eq_true] at h
    obtain ⟨⟨h1, h2⟩, h3⟩ := h
    have g := F.tg h1
    have h1' : (match asTup t with
      | some es => (es.length == is.length) && (is.zip es).all (fun p => match asName p.2 with
        | some x => ownB nc sc p.1 x
        | none => false)
      | none => false) = true := h1
    cases ht : asTup t with
    | none =>
      rw [ht] at h1'
      cases h1'
    | some ts =>
      obtain ⟨k, p, rfl⟩ := asTup_eq ht
      refine (ps_asg ((snd e (x := x) F.f).v v h2) g ?_ ?_ rfl).imq fun D σ H q => rs_unp q
      · show swapsWith v (some (.Tuple ts k p)) sp.line X.env = pure false
        cases v <;> rfl
      · cases v <;> first | rfl | (simp [asTup] at h3; done)
  · cases h
theorem names_of {nc : Nc} {sc : Scope} : ∀ {is : List Nat} {ts : List Expr}, ((is.zip ts).all fun p => match asName p.2 with
    | some x => ownB nc sc p.1 x
    | none => false) = true → ts.length = is.length → ∀ (j : Nat) t, ts[j]? = some t → ∃ y p, t = .Name y p
  | [], [], _, _, j, t, e => by simp at e
  | [], _ :: _, _, h, _, _, _ => nomatch h
  | _ :: _, [], _, h, _, _, _ => nomatch h
  | i :: is, t0 :: ts, h, hl, j, t, e => by
    rw [List.zip_cons_cons, List.all_cons, Bool.and_eq_true] at h
    cases j with
    | zero =>
      simp at e
      subst e
      have h1 := h.1
      dsimp only at h1
      split at h1
      · rename_i y hy
        obtain ⟨p, rfl⟩ := asName_eq hy
        exact ⟨y, p, rfl⟩
      · cases h1
    | succ j => exact names_of h.2 (by simpa using hl) j t (by simpa using e)
theorem ss_par {X : Cx} {sc : Scope} {l : Lay} {x : KX} (F : SFit X nc sc l fe) (is : List Nat) (e : E) (st : Stmt) (h : parS nc sc is ((chk nc e).a sc) st = true) : PS X st (tS l x (ex fe x (.par is e))) := by
  unfold parS at h
  split at h
  · rename_i t v sp hx
    obtain rfl := asAsg_eq hx
    split at h
    · rename_i ts vs ht hv
      have g := ht
      obtain ⟨k, p, rfl⟩ := asTup_eq ht
      obtain ⟨k2, p2, rfl⟩ := asTup_eq hv
      simp only [Bool.and_eq_true, Bool.or_eq_true, decide_eq_true_eq] at h
      obtain ⟨⟨⟨⟨h1, h2⟩, h3⟩, hz⟩, h4⟩ := h
      have pa := (snd e (x := x) F.f).a vs h2
      rcases h4 with h4 | ⟨⟨h4, h5⟩, h6⟩
      · exact (ps_asg (pe_tup pa) (F.tg h1) rfl (parTup_eq (by rw [F.f.sc]; exact h4)) rfl).imq fun D σ H q => rs_parT (Nat.le_trans hz (by decide)) q
      · have hsw := parSwap_eq (env := X.env) (ts := ts) (vs := vs) (k := k) (k2 := k2) (p := p) (p2 := p2) (by rw [F.f.sc]; exact h4)
        have nd := nodupB_eq h5
        have h1' : ((ts.length == is.length) && (is.zip ts).all (fun p => match asName p.2 with
          | some x => ownB nc sc p.1 x
          | none => false)) = true := h1
        rw [Bool.and_eq_true] at h1'
        have hlen : ts.length = is.length := by simpa using h1'.1
        have nm := names_of h1'.2 hlen
        rw [F.f.sc] at hsw
        split at h6
        · rename_i i j y z hn
          simp only [Bool.and_eq_true, decide_eq_true_eq] at h6
          obtain ⟨⟨⟨⟨⟨a1, a2⟩, a3⟩, a4⟩, a5⟩, a6⟩ := h6
          rw [hn] at hsw
          match ts, hlen, nm, a5 with
          | [t1, t2], _, nm, a5 =>
            obtain ⟨y1, p1, rfl⟩ := nm 0 t1 rfl
            obtain ⟨y2, p3, rfl⟩ := nm 1 t2 rfl
            have a5 : [y1, y2] = [y, z] := a5
            cases a5
            match vs, a6, pa, hsw with
            | [v1, v2], _, pa, hsw =>
              have hij : i ≠ j := by
                have := (List.nodup_cons.mp nd).1
                simpa using this
              refine (ps_par F.f.calm F.f.nd (by rw [F.f.N]; exact a1) (by rw [F.f.N]; exact a2) hij (by rw [F.f.sc]; exact a3) (by rw [F.f.sc]; exact a4) pa hsw).imq fun D σ H q => ?_
              have q2 := rs_par q
              obtain ⟨L, Hi0, B, Hi, ρ, k, s, hf, ha⟩ := q2
              refine ⟨L, Hi0, B, Hi, ρ, k, s, hf, fun as has ws Hi' H' g' ok' hws => ?_⟩
              obtain ⟨b1, b2⟩ := ha as has ws Hi' H' g' ok' hws
              match ws, b1, b2 with
              | [w1, w2], _, b2 => exact ⟨w1, w2, rfl, b2⟩
        · rename_i i j m y z u hn
          simp only [Bool.and_eq_true, decide_eq_true_eq] at h6
          obtain ⟨⟨⟨⟨⟨⟨⟨a1, a2⟩, a2'⟩, a3⟩, a4⟩, a4'⟩, a5⟩, a6⟩ := h6
          rw [hn] at hsw
          match ts, hlen, nm, a5 with
          | [t1, t2, t3], _, nm, a5 =>
            obtain ⟨y1, p1, rfl⟩ := nm 0 t1 rfl
            obtain ⟨y2, p3, rfl⟩ := nm 1 t2 rfl
            obtain ⟨y3, p4, rfl⟩ := nm 2 t3 rfl
            have a5 : [y1, y2, y3] = [y, z, u] := a5
            cases a5
            match vs, a6, pa, hsw with
            | [v1, v2, v3], _, pa, hsw =>
              have n1 := (List.nodup_cons.mp nd).1
              have n2 := (List.nodup_cons.mp (List.nodup_cons.mp nd).2).1
              simp at n1 n2
              refine (ps_par3 F.f.calm F.f.nd (by rw [F.f.N]; exact a1) (by rw [F.f.N]; exact a2) (by rw [F.f.N]; exact a2') n1.1 n1.2 n2 (by rw [F.f.sc]; exact a3) (by rw [F.f.sc]; exact a4) (by rw [F.f.sc]; exact a4') pa hsw).imq fun D σ H q => ?_
              have q2 := rs_par q
              obtain ⟨L, Hi0, B, Hi, ρ, k, s, hf, ha⟩ := q2
              refine ⟨L, Hi0, B, Hi, ρ, k, s, hf, fun as has ws Hi' H' g' ok' hws => ?_⟩
              obtain ⟨b1, b2⟩ := ha as has ws Hi' H' g' ok' hws
              match ws, b1, b2 with
              | [w1, w2, w3], _, b2 => exact ⟨w1, w2, w3, rfl, b2⟩
        · cases h6
    · cases h
  · cases h
end
end Un
end
section
/-! Un: every statement; a def by its body. -/
namespace Un
open PySem PySem.Spec L2
section
variable {nc : Nc} {fe : FE}
theorem SSnd.ofS {X : Cx} {l : Lay} {x : KX} {f : List SV → KF → Prop} {s : Stmt → Bool} (h : ∀ st, s st = true → PS X st (tS l x f)) : SSnd X l x f { noS with s := s } := ⟨h, fun _ z => nomatch z⟩
theorem SSnd.ofB {X : Cx} {l : Lay} {x : KX} {f : List SV → KF → Prop} {b : List Stmt → Bool} (h : ∀ st, b st = true → PSs X st (tS l x f)) : SSnd X l x f { noS with b := b } := ⟨fun _ z => (nomatch z), h⟩
theorem ss_cons {X : Cx} {l : Lay} {x : KX} {f g : List SV → KF → Prop} {c d : Cs} (h1 : SSnd X l x f c) (h2 : SSnd X l x g d) : SSnd X l x (fun ρ k => f ρ fun fl => match fl with
    | .nx ρ' => g ρ' k
    | o => k o) { noS with b := fun sts => match sts with
    | st :: sts => c.s st && d.b sts
    | [] => false } := SSnd.ofB fun sts h => by
  cases sts with
  | nil => cases h
  | cons st sts =>
    replace h : (c.s st && d.b sts) = true := h
    rw [Bool.and_eq_true] at h
    exact (pss_cons (h1.s st h.1) (h2.b sts h.2)).imq fun D σ H q => rs_cons q
theorem ssnd {sc : Scope} : ∀ (S : Sm) {X : Cx} {l : Lay} {x : KX}, SFit X nc sc l fe → SSnd X l x (ex fe x S) (chkS nc sc S)
  | .set i e, X, l, x, F => SSnd.ofS (ss_set F i e)
  | .unp is e, X, l, x, F => SSnd.ofS (ss_unp F is e)
  | .par is es, X, l, x, F => SSnd.ofS (ss_par F is es)
  | .put i j e, X, l, x, F => SSnd.ofS fun st h => by
    unfold putS at h
    split at h
    · rename_i t v sp hx
      obtain rfl := asAsg_eq hx
      split at h
      · rename_i o ix ho
        obtain ⟨p, rfl⟩ := asSub_eq ho
        split at h
        · rename_i y hy
          obtain ⟨p2, rfl⟩ := asName_eq hy
          simp only [Bool.and_eq_true] at h
          obtain ⟨⟨⟨h1, h2⟩, h3⟩, h4⟩ := h
          unfold varB at h1
          simp only [Bool.and_eq_true, decide_eq_true_eq, Bool.not_eq_true'] at h1
          obtain ⟨⟨⟨a1, a2⟩, a3⟩, a4⟩ := h1
          have ha : ∀ u, assign (.Subscript (.Name y p2) ix p) X.env u = (do
              let ov ← holding [u] (eval (.Name y p2) X.env)
              let iv ← holding [u, ov] (eval ix X.env)
              standAt p
              holding [u, ov, iv] (setItem ov iv u)
              release [u, ov, iv] []) := by
            intro u
            cases ix <;> first | rfl | (simp [notSlc] at h2; done)
          refine (ps_asg ((snd e (x := x) F.f).v v h4) (pg_sub (pe_var (by rw [F.f.N]; exact a1) (F.f.vis a2) a3 a4) ((snd j (x := x) F.f).v ix h3) set_list ha) ?_ ?_ rfl).imq fun D σ H q => rs_put q
          · show swapsWith v (some (.Subscript (.Name y p2) ix p)) sp.line X.env = pure false
            cases v <;> rfl
          · cases v <;> rfl
        · cases h
      · cases h
    · cases h
  | .app i e, X, l, x, F => SSnd.ofS fun st h => by
    unfold appS at h
    split at h
    · rename_i v sp hx
      obtain rfl := asExp_eq hx
      split at h
      · rename_i y u ap cp hy
        obtain ⟨p, rfl⟩ := asApp_eq hy
        simp only [Bool.and_eq_true] at h
        obtain ⟨⟨⟨h1, h2⟩, h3⟩, h4⟩ := h
        unfold varB at h1
        simp only [Bool.and_eq_true, decide_eq_true_eq, Bool.not_eq_true'] at h1
        obtain ⟨⟨⟨a1, a2⟩, a3⟩, a4⟩ := h1
        have hst := star_cons h2 [] X.env
        refine (ps_expr (pe_bm PySem.F.plainAttrs_list PySem.F.slot_list_append PySem.F.type_list_append mt_append (pe_var (by rw [F.f.N]; exact a1) (F.f.vis a2) a3 a4) (ca1 ((snd e (x := x) F.f).v u h3) h2) rfl ?_ h4 hst rfl) rfl).imq fun D σ H q => ?_
        · rw [hst]
          rfl
        · rw [F.f.K]
          exact rs_app q
      · cases h
    · cases h
  | .ret e, X, l, x, F => SSnd.ofS fun st h => by
    split at h
    · rename_i v hx
      obtain ⟨p, rfl⟩ := asRet_eq hx
      exact (ps_ret ((snd e (x := x) F.f).v v h)).imq fun D σ H q => rs_ret q
    · cases h
  | .retN, X, l, x, F => SSnd.ofS fun st h => by
    split at h
    · rename_i hx
      obtain ⟨p, rfl⟩ := asRet_eq hx
      exact ps_retN.imq fun D σ H q => rs_retN q
    · cases h
  | .drop e, X, l, x, F => SSnd.ofS fun st h => by
    split at h
    · rename_i v sp hx
      obtain rfl := asExp_eq hx
      rw [Bool.and_eq_true, Bool.not_eq_true'] at h
      exact (ps_expr ((snd e (x := x) F.f).v v h.1) (swaps_no h.2 _ _ _)).imq fun D σ H q => rs_drop q
    · cases h
  | .ifs c a b, X, l, x, F => SSnd.ofS fun st h => by
    split at h
    · rename_i ec sa sb hx
      obtain ⟨p, rfl⟩ := asIfS_eq hx
      simp only [Bool.and_eq_true] at h
      exact (ps_if ((snd c (x := x) F.f).t ec h.1.1) ((ssnd a (x := x) F).b sa h.1.2) ((ssnd b (x := x) F).b sb h.2)).imq fun D σ H q => rs_if q
    · cases h
  | .loop tg it b, X, l, x, F => SSnd.ofS fun st h => by
    split at h
    · rename_i t i sb hx
      obtain ⟨p, rfl⟩ := asFor_eq hx
      simp only [Bool.and_eq_true] at h
      obtain ⟨⟨h1, h2⟩, h3⟩ := h
      obtain ⟨pi, ns⟩ := (snd it (x := x) F.f).i t i h2
      exact (ps_for F.po F.f.calm pi (F.tg h1) ((ssnd b (x := x) F).b sb h3) (notSet_eq ns X.env)).imq fun D σ H q => rs_for q
    · cases h
  | .whl c b, X, l, x, F => SSnd.ofS fun st h => by
    split at h
    · rename_i ec sb hx
      obtain ⟨p, rfl⟩ := asWhl_eq hx
      simp only [Bool.and_eq_true] at h
      exact (ps_while F.po ((snd c (x := x) F.f).t ec h.1) ((ssnd b (x := x) F).b sb h.2)).imq fun D σ H q => rs_whl q
    · cases h
  | .brk, X, l, x, F => SSnd.ofS fun st h => by
    split at h
    · exact ps_break.imq fun D σ H q => rs_bk q
    · cases h
  | .cnt, X, l, x, F => SSnd.ofS fun st h => by
    split at h
    · exact ps_continue.imq fun D σ H q => rs_ct q
    · cases h
  | .pass, X, l, x, F => SSnd.ofS fun st h => by
    split at h
    · exact ps_pass.imq fun D σ H q => rs_nx q
    · cases h
  | .frz i, X, l, x, F => ⟨fun _ z => (nomatch z), fun _ z => (nomatch z)⟩
  | .nil, X, l, x, F => SSnd.ofB fun sts h => by
    cases sts with
    | nil => exact pss_nil.imq fun D σ H q => rs_nx q
    | cons _ _ => cases h
  | .cons s r, X, l, x, F => by
    have R := ssnd r (x := x) F
    have gen : (∀ i, s ≠ .frz i) → SSnd X l x (ex fe x (.cons s r)) (chkS nc sc (.cons s r)) := fun hs => by
      have S := ssnd s (x := x) F
      have e : chkS nc sc (.cons s r) = { noS with b := fun sts => match sts with
        | st :: sts => (chkS nc sc s).s st && (chkS nc sc r).b sts
        | [] => false } := by
        cases s <;> first | rfl | exact absurd rfl (hs _)
      rw [e]
      exact ss_cons S R
    by_cases hs : ∃ i, s = .frz i
    · obtain ⟨i, rfl⟩ := hs
      refine SSnd.ofB fun sts h => (R.b sts h).imq fun D σ H q => rs_frz (i := i) ?_
      obtain ⟨L, Hi0, B, Hi, ρ, k, s, ⟨xs, e, hk⟩, ha⟩ := q
      exact ⟨L, Hi0, B, Hi, ρ, k, s, ⟨xs, e, hk⟩, ha⟩
    · exact gen fun i z => hs ⟨i, z⟩
end
end Un
end
section
/-! Un: a def keeps its promise; the law's end for such defs. -/
namespace Un
open PySem PySem.Spec PyProof.Rows L2

theorem args_slots {K : PySem.W.Frag} {L : Loc} {B Hi H : Hp} : ∀ {vs : List V} {args : List SV}, Two (ArgOk K L Hi) vs args → ∀ (i : Nat) r, args[i]? = some r → ∃ v, vs[i]? = some v ∧ SvOk K L B Hi H (some v) r ∧ isOwn r = false
  | _, _, .nil, i, r, e => by simp at e
  | _, _, .cons (a := v) (b := q) h t, 0, r, e => by
    simp at e
    subst e
    refine ⟨v, rfl, ?_⟩
    cases q with
    | d x => exact ⟨⟨v, rfl, h⟩, rfl⟩
    | src => exact ⟨congrArg some h, rfl⟩
    | un => exact h.elim
    | own _ => exact h.elim
  | _, _, .cons h t, i + 1, r, e => by
    obtain ⟨v, h1, h2⟩ := args_slots (B := B) (H := H) t i r (by simpa using e)
    exact ⟨v, by simpa using h1, h2⟩
theorem rel_start {K : PySem.W.Frag} {L : Loc} {Hi H : Hp} {N : List Str} {vs : List V} {args : List SV} {p : Nat} (ok : L.ok H) (sm : Same Hi H) (hf : ∀ a, L.foot a → Hi a = none) (hp : args.length = p) (t : Two (ArgOk K L Hi) vs args) :
    Rel K L Hi H Hi (L2.start N vs) H (args ++ List.replicate (N.length - p) .un) where
  g := Grow.refl sm
  src := ok
  srcB := ok
  av0 := hf
  len := by
    unfold L2.start
    rw [List.length_append, List.length_append, List.length_replicate, List.length_replicate, List.length_map, t.len, hp]
  slot := fun i r e => by
    unfold L2.start
    by_cases hi : i < args.length
    · rw [List.getElem?_append_left hi] at e
      obtain ⟨v, h1, h2, _⟩ := args_slots (B := H) (H := H) t i r e
      refine ⟨some v, ?_, h2⟩
      rw [List.getElem?_append_left (by rw [List.length_map, t.len]; exact hi), List.getElem?_map, h1] <;> rfl
    · rw [List.getElem?_append_right (by omega), List.getElem?_replicate] at e
      split at e
      · rename_i hlt
        cases e
        refine ⟨none, ?_, trivial⟩
        rw [List.getElem?_append_right (by rw [List.length_map, t.len]; omega), List.length_map, t.len, List.getElem?_replicate, if_pos (by rw [hp] at hlt ⊢; exact hlt)]
      · cases e
  apart := fun i j r q a hij e1 e2 o1 o2 s1 s2 => by
    have no : ∀ (i : Nat) r, (args ++ List.replicate (N.length - p) SV.un)[i]? = some r → isOwn r = true → False := fun i r e o => by
      by_cases hi : i < args.length
      · rw [List.getElem?_append_left hi] at e
        obtain ⟨v, h1, h2, h3⟩ := args_slots (B := H) (H := H) t i r e
        rw [h3] at o
        cases o
      · rw [List.getElem?_append_right (by omega), List.getElem?_replicate] at e
        split at e
        · cases e
          cases o
        · cases e
    exact no i r e1 o1
/-- the names that a def's text uses, in one place -/
structure Glob (P : Program) (w : World) (mg : Str → Option Value) (base : Heap) (l : Lay) (nc : Nc) (fe : FE) : Prop where
  mgn : ∀ x ∈ bltNames, mg x = none
  gcd : nc.gcd = true → mg "gcd" = some (.builtin "math.gcd")
  pats : ∀ p ∈ nc.pats, CallOk P w mg base l nc.k (fe p.f) p
  csts : ∀ c ∈ nc.csts, ∃ u v, mg c.1 = some u ∧ RelV v u ∧ ∀ H, Dq l.K H v c.2
/-- A DEF KEEPS ITS PROMISE -/
theorem fn_run {P : Program} {w : World} {mg : Str → Option Value} {base : Heap} {l : Lay} {f : Addr} {x qual : Str} {params : Arguments} {body : List Stmt} {scope : Scope} {dvs : List V} {kws : List (Str × V)} {fd : FuncData} {ps : List Str} {nc : Nc} {fe : FE} {S : Sm}
    (F : FunD l.K x qual params body scope dvs kws f fd) (Sc : FnScope nc.N ps scope) (G : Glob P w mg base l nc fe) (hc : (chkS nc scope S).b body = true) : FnG P w l.K mg base (nc.k + 1) f fd ps (spF l (runF fe ps.length nc.N.length S) ps.length) := by
  refine fn_ofG F Sc (fun vs H Q E h => ?_) fun cdv A outer s H vs Q E hr h => ?_
  · obtain ⟨L, Hi, args, k, x, h1, h2, h3, h4, h5, h6, h7⟩ := h
    rw [h6.len, h5]
  · obtain ⟨L, Hi, args, k, x, h1, h2, h3, h4, h5, h6, ⟨h7, h8⟩, h9, h10⟩ := h
    let lE : Lay := { l with W := fun cls d _ H' => E cls d H' }
    have fit : SFit (cxOf (L2.CX P w) P w l.K mg base nc.N qual scope f cdv A outer s H E) nc scope lE fe :=
      { f := { N := rfl, nd := Sc.nd, sc := rfl, K := rfl, calm := rfl, room := hr, tk := takes_of rfl rfl rfl rfl, mgn := G.mgn, gcd := G.gcd, pats := fun p hp => by
                 obtain ⟨a, fd, ps, q1, q2, q3, q4, q5⟩ := (G.pats p hp).ex
                 exact ⟨a, fd, ps, q1, q2, q3, q4, q5⟩
               csts := G.csts }
        fn := fun _ => rfl
        po := passes_of rfl }
    have rel := rel_start (N := nc.N) h2 h3 h4 h5 h6
    refine ⟨tS lE x (ex fe x S), (ssnd S (x := x) fit).b body hc, L, Hi, H, Hi, args ++ List.replicate (nc.N.length - ps.length) .un, _, ⟨h1, rel, fun ρ' σ' Hi1 H1 r c fs cls d Hi' H' q1 q2 q3 q4 => h10 c fs cls d Hi' H' q1 (r.g.trans q2) q3 q4⟩, h8, fun fl hk => ?_⟩
    cases fl with
    | nx ρ' => exact fun σ' Hi' H' r a => h9 _ hk .non Hi' H' r.g r.src .non
    | bk ρ' => exact hk.elim
    | ct ρ' => exact hk.elim
    | rt a =>
      refine fun v Hi' H' g ok hv => ?_
      cases a with
      | d y => exact h9 _ hk v Hi' H' g ok hv
      | new xs => exact h9 _ hk v Hi' H' g ok hv
      | bor xs => exact h9 _ hk v Hi' H' g ok hv
      | src => exact hk.elim

/-- the law's call, for a def whose promise asks that no repr runs around -/
theorem law_callU {P : Program} {w : World} {K : PySem.W.Frag} {mg mb : Str → Option Value} {k : Nat} {fa a : Addr} {fd : FuncData} {x : Str} {sp : Sp} {st : Shared} {us : List Value} {ns : List Int}
    (KX : K.In st.heap) (hm : st.heap.Ns mainGlobals mg) (hb : st.heap.Ns builtinsNs mb) (hbb : ∀ y : Str, y ≠ "__name__" → mb y = bootBuiltins y) (hnl : st.heap.NoLimit) (hg : st.gens = #[])
    (ha : st.heap.get? a = some { cls := .type "list", data := .seq us.toArray }) (hi : IntsAre us ns) (hl : ns.length ≤ sizeLine) (hr : RoomG k callerA)
    (F : ∀ base : Heap, K.In base → base.Ns mainGlobals mg → FnG P w K mg base k fa fd [x] sp) (hbind : ∀ (s : Shared) (u : Value), BindsTo s fd ⟨[u], []⟩ [(x, u)])
    (hsp : ∀ H : Hp, Only H → SqL K H a (ns.map V.int) → sp [.ref a] H (fun v _ => v = .bl true) fun _ _ _ => False) :
    codeAny (model P w) callerA (.call (.ref fa) ⟨[.ref a], []⟩) (fun r s2 => r = .ok (.ret (.bool true)) ∧ OldK st.heap s2.heap ∧ s2.os = st.os ∧ AllBare s2.gens) st := by
  have rv := vals_ints hi
  have hlen := hi.length
  have main : ∀ H : Hp, Only H → SqL K H a (ns.map V.int) → HOk P w H st.heap → (∀ b, H b ≠ none → b = a) → (H a ≠ none → K.lookup a = none) →
      codeAny (model P w) callerA (.call (.ref fa) ⟨[.ref a], []⟩) (fun r s2 => r = .ok (.ret (.bool true)) ∧ OldK st.heap s2.heap ∧ s2.os = st.os ∧ AllBare s2.gens) st := by
    intro H hO hS hok hA hK
    have keep : ∀ {b : Addr} {o : Obj}, st.heap.get? b = some o → H b = none → (hidT st.heap H).get? b = some o := fun e n => hidT_get e n
    have notA : ∀ {b : Addr} {o : Obj} {es : Array DictEntry} {ep : Nat}, st.heap.get? b = some o → o.data = .dict es ep → H b = none := fun {b o es ep} e d => by
      cases q : H b with
      | none => rfl
      | some u =>
        obtain rfl : b = a := hA b (by rw [q]; simp)
        rw [ha] at e
        cases e
        cases (show Data.seq us.toArray _ = Data.dict es ep from d)
    have ns : ∀ {b : Addr} {m : Str → Option Value}, st.heap.Ns b m → (hidT st.heap H).Ns b m := fun {b m} ⟨o, es, ep, e, d, r⟩ => ⟨o, es, ep, keep e (notA e d), d, r⟩
    have hKb : K.In (hidT st.heap H) := fun b o e => keep (KX b o e) (by
      cases q : H b with
      | none => rfl
      | some u =>
        obtain rfl : b = a := hA b (by rw [q]; simp)
        rw [hK (by rw [q]; simp)] at e
        cases e)
    have hM : Mod K mg (hidT st.heap H) := by
      obtain ⟨mc, h1, h2⟩ := hnl
      exact ⟨hKb, ns hm, ⟨mb, ns hb, hbb⟩, mc, ns h1, h2⟩
    have env : Env0 P w K mg (hidT st.heap H) callerA [] st H := ⟨rfl, hM, fun b o e => of_hidT e, Nat.le_of_eq (hidT_size _ _), trivial, fun b z => absurd (show b ∈ ([] : List Addr) from z) (by simp), hok, .of_eq hg⟩
    refine codeAny_mono ((F _ hKb (ns hm)).run callerA [] st H ⟨[.ref a], []⟩ [.ref a] [.ref a] _ _ hr env (hbind st (.ref a)) (.cons rfl .nil) (hsp H hO hS)) fun r s2 h => ?_
    cases r with
    | error e =>
      obtain ⟨_, _, _, _, _, _, _, _, _, _, _, _, hE⟩ := h
      exact hE.elim
    | ok fl =>
      cases fl with
      | ret u =>
        obtain ⟨v, H2, os, bare, un, hok2, r2, q⟩ := h
        have q : v = .bl true := q
        subst q
        obtain rfl : u = Value.bool true := r2
        refine ⟨rfl, OldK.of_keep fun b o e => ?_, os, bare⟩
        cases q : H b with
        | none => exact un.keep b o e q (fun z => absurd (show b ∈ ([] : List Addr) from z) (by simp)) (by simp)
        | some u =>
          rcases hO b with z | ⟨ob, xs, z⟩
          · rw [q] at z
            cases z
          · obtain ⟨e1, _⟩ := hok b _ z
            obtain ⟨e2, _⟩ := hok2 b _ (un.frzs b ob _ z)
            rw [e] at e1
            cases e1
            exact e2
      | next => exact False.elim h
      | brk => exact False.elim h
      | cont => exact False.elim h
  cases hk : K.lookup a with
  | some o =>
    have e := KX a o hk
    rw [ha] at e
    cases e
    exact main (fun _ => none) (fun _ => .inl rfl) (.inr ⟨_, us.toArray, _, hk, rfl, rfl, rfl, by rw [List.size_toArray, hlen]; exact hl, by simpa using rv⟩) (fun b u z => (nomatch (show (none : Option HO) = some u from z))) (fun b z => absurd rfl z) fun z => absurd rfl z
  | none =>
    refine main (fun b => if b = a then some (.frz { cls := .type "list", data := .seq us.toArray } (.lst (ns.map V.int))) else none) (fun b => ?_) (.inl (.inr ⟨{ cls := .type "list", data := .seq us.toArray }, if_pos rfl⟩)) (fun b u z => ?_) (fun b z => ?_) fun _ => hk
    · by_cases eb : b = a
      · exact .inr ⟨_, _, if_pos eb⟩
      · exact .inl (if_neg eb)
    · by_cases eb : b = a
      · have z2 := (if_pos eb).symm.trans z
        cases z2
        subst eb
        exact ⟨ha, by rw [List.length_map]; exact hl, us, _, rv, ha⟩
      · cases (if_neg eb).symm.trans z
    · by_cases eb : b = a
      · exact eb
      · exact absurd (if_neg eb) z
theorem walk_ofU {l : PySem.W.OpenLaw} {n k : Nat} {q : Program} {loose : List Str} {XP : (Str → Option Value) → Heap → Prop} {YP : World → Heap → Prop} {d : DefRec} {x : Str}
    (hn : l.most = some n) (hn2 : n ≤ sizeLine) (hdf : d.params.defaults = []) (hr : RoomG k callerA)
    (F : ∀ (w : World) (mg : Str → Option Value) (fa : Addr) (h : Heap), YP w h → h.Ns mainGlobals mg → mg d.name = some (.ref fa) →
      ∃ (K : PySem.W.Frag) (fd : FuncData) (sp : Sp), K.In h ∧ (∀ (s : Shared) (u : Value), BindsTo s fd ⟨[u], []⟩ [(x, u)]) ∧
        (∀ (H : Hp) (a : Addr) (ns : List Int), ns.length ≤ n → Only H → SqL K H a (ns.map V.int) → sp [.ref a] H (fun v _ => v = .bl true) fun _ _ _ => False) ∧
        ∀ base : Heap, K.In base → base.Ns mainGlobals mg → FnG l.prog w K mg base k fa fd [x] sp) :
    PySem.W.WalkO q loose XP YP l.row.toRowW d [] (fun f vs => PySem.call f vs) := by
  refine Att.attach_call hn hdf fun w _ s₁ mg mb fa _ _ _ _ a vs ns G Y _ _ _ hmg hobj hints hlen hg => ?_
  obtain ⟨K, fd, sp, KX, hb, hsp, hF⟩ := F w mg fa _ Y G.T.g hmg
  exact law_callU KX G.T.g G.T.b G.T.builtins G.T.nolimit hg hobj hints (Nat.le_trans hlen hn2) hr hF hb fun H hO hS => hsp H a ns hlen hO hS
end Un
end
section
/-! Un: the law's source of numbers (a dict with two lists), as a place; what drawing promises. -/
namespace Un
open PySem PySem.Spec L2
def srcKv (p q : Addr) (fold turn : Int) : List (Key × V) := [(.inr "deep", .ref p), (.inr "small", .ref q), (.inr "fold", .int fold), (.inr "turn", .int turn)]
def srcL (d p q : Addr) : Loc where
  p := d
  foot := fun a => a = d ∨ a = p ∨ a = q
  ok := fun H => ∃ (deep small : List Int) (fold turn : Int), H d = some (.dK (srcKv p q fold turn)) ∧ H p = some (.lst (deep.map V.int)) ∧ H q = some (.lst (small.map V.int)) ∧ small ≠ []
  mono := fun H H' ⟨deep, small, fold, turn, h1, h2, h3, h4⟩ e => ⟨deep, small, fold, turn, (e d (.inl rfl)).trans h1, (e p (.inr (.inl rfl))).trans h2, (e q (.inr (.inr rfl))).trans h3, h4⟩
  dom := fun H a ⟨deep, small, fold, turn, h1, h2, h3, h4⟩ f => by
    rcases f with rfl | rfl | rfl
    · rw [h1]; simp
    · rw [h2]; simp
    · rw [h3]; simp
def srcK (L : Loc) : Prop := ∃ d p q, p ≠ q ∧ d ≠ p ∧ d ≠ q ∧ L = srcL d p q
theorem divP {n : Int} (h : 0 < n) (hl : n.natAbs.log2 < 9000) (i : Int) : CDivP i n := ⟨h, PyProof.noPylong_of_log2 hl⟩
section
variable {H : Hp} {d p q : Addr} {fold turn : Int}
theorem get_deep (h : H d = some (.dK (srcKv p q fold turn))) : DGet H d (.str "deep") (some (.ref p)) := by
  have := DGet.k (k := .inr "deep") h
  exact this
theorem get_small (h : H d = some (.dK (srcKv p q fold turn))) : DGet H d (.str "small") (some (.ref q)) := by
  have := DGet.k (k := .inr "small") h
  exact this
theorem get_fold (h : H d = some (.dK (srcKv p q fold turn))) : DGet H d (.str "fold") (some (.int fold)) := by
  have := DGet.k (k := .inr "fold") h
  exact this
theorem get_turn (h : H d = some (.dK (srcKv p q fold turn))) : DGet H d (.str "turn") (some (.int turn)) := by
  have := DGet.k (k := .inr "turn") h
  exact this
theorem put_turn (h : H d = some (.dK (srcKv p q fold turn))) (t : Int) : DPut H d (.str "turn") (.int t) (upd H d (.dK (srcKv p q fold t))) := by
  have := DPut.k (k := .inr "turn") (v := .int t) h (by show 4 < sizeLine; decide)
  exact this
theorem deep_empty {K : PySem.W.Frag} (h : H p = some (.lst (List.map V.int deep))) : Dp K H (.ref p) (.list (deep.map PyData.int)) := by
  refine .lst (SqL.of h) ?_
  induction deep with
  | nil => exact .nil
  | cons i r ih =>
    have all : ∀ l : List Int, DpAll K H (l.map V.int) (l.map PyData.int) := fun l => by
      induction l with
      | nil => exact .nil
      | cons i r ih => exact .cons (.int i) ih
    exact all (i :: r)
end
theorem lay_ints : ∀ xs : List Int, PyData.canLayAll0 (xs.map PyData.int) = true ∧ PyData.depthAll (xs.map PyData.int) = 0
  | [] => ⟨rfl, rfl⟩
  | i :: r => by
    obtain ⟨h1, h2⟩ := lay_ints r
    constructor
    · simp [PyData.canLayAll0, PyData.canLay0, h1]
    · simp [PyData.depthAll, PyData.depth, h2]
theorem shape_ints (xs : List Int) : SeqAt.shaped (.list (xs.map PyData.int)) = true := by
  obtain ⟨h1, h2⟩ := lay_ints xs
  simp [SeqAt.shaped, PyData.canLay0, PyData.depth, h1, h2]
theorem ix_zero (n : Nat) : ixN (n + 1) 0 = some 0 := by
  unfold ixN
  rw [if_pos (by omega), if_pos (by omega)]
  rfl
theorem at_zero {α : Type} (x : α) (xs : List α) : atI (x :: xs) 0 = some x := by
  unfold atI
  rw [List.length_cons, ix_zero]
  rfl
theorem ite_both {c : Prop} [Decidable c] {A B : Prop} (h1 : c → A) (h2 : ¬c → B) : if c then A else B := by
  by_cases h : c
  · rw [if_pos h]
    exact h1 h
  · rw [if_neg h]
    exact h2 h
theorem snoc_int (xs : List Int) (i : Int) : some (HO.lst (xs.map V.int ++ [V.int i])) = some (HO.lst ((xs ++ [i]).map V.int)) := by
  rw [List.map_append] <;> rfl
/-- drawing changes the source alone -/
theorem src_grow {d p q : Addr} {Hi H H' : Hp} (sm : Same Hi H) (hf : ∀ a, (srcL d p q).foot a → Hi a = none) (k : ∀ a o, H a = some o → ¬ (srcL d p q).foot a → H' a = some o) (dom : ∀ a, H' a = none → H a = none) : Grow (srcL d p q) Hi H Hi H' where
  keep := k
  dom := dom
  mono := Same.refl _
  sub := fun a o e => k a o (sm a o e) fun f => by
    rw [hf a f] at e
    cases e
  fr := fun a h1 h2 => absurd h2 h1
end Un
end
section
/-! Un: the head with facts of one's own. -/
namespace Un
open PySem PySem.Spec PyProof.Rows L2
def obsU (n : Nat) (fa : List He.Fa) (fn : List He.DefD) (ex : PySem.W.Frag → Bool) (g : Addr → Option Obj) : He.AlD := ((He.obsDG n fa fn g).1 && ex (He.frG g (He.asD g n)), (He.obsDG n fa fn g).2)
def hookU (n : Nat) (fa : List He.Fa) (fn : List He.DefD) (ex : PySem.W.Frag → Bool) : PySem.W.Hook where
  α := He.AlD
  obs := fun s => obsU n fa fn ex s.heap.get?
  val := fun _ => He.valD fn
  says := fun _ h => ∃ K : PySem.W.Frag, K.In h ∧ He.SaysD fa fn K ∧ ex K = true
  of := fun _ s e => by
    have e0 : obsU n fa fn ex s.heap.get? = He.valD fn := e
    unfold obsU He.valD at e0
    rw [Prod.mk.injEq] at e0
    obtain ⟨e1, e2⟩ := e0
    rw [Bool.and_eq_true] at e1
    refine ⟨_, He.frG_in, ?_, e1.2⟩
    exact Prod.ext e1.1 e2
  keeps := fun _ _ _ ⟨K, hK, c⟩ k => ⟨K, PySem.W.Frag.In.keeps hK k, c⟩
theorem obsU_eq {n : Nat} {fa : List He.Fa} {fn : List He.DefD} {ex : PySem.W.Frag → Bool} {g : Addr → Option Obj} {s : Shared} (h : ∀ a, g a = s.heap.get? a) : obsU n fa fn ex g = (hookU n fa fn ex).obs s := by
  obtain rfl : g = s.heap.get? := funext h
  rfl
/-- a module's tuple of ints -/
theorem cst_ints {K : PySem.W.Frag} {h : Heap} {mg : Str → Option Value} {x : Str} (ns : List Int) (X : K.In h) (G : h.Ns mainGlobals mg) (hg : (He.Fa.glo x).ok K = true) (ht : He.tupB K x (ns.map He.Dv.int) = true) :
    ∃ u v, mg x = some u ∧ RelV v u ∧ ∀ H, Dq K H v (.tuple (ns.map PyData.int)) := by
  refine ⟨_, .ref (He.ga K x), He.glo_ok X G hg, rfl, fun H => .tup (He.tupB_ok ht H) ?_⟩
  clear ht
  induction ns with
  | nil => exact .nil
  | cons i r ih => exact .cons (.int i) ih
/-- how a def without defaults binds -/
theorem kb_of {K : PySem.W.Frag} {x qual : Str} {params : Arguments} {body : List Stmt} {scope : Scope} {f : Addr} {fd : FuncData} {n : Nat} {ps ks : List Str} {pm : List Nat} (F : FunD K x qual params body scope [] [] f fd)
    (h : ∀ (kV doc pmv : Value) (an : Option Addr) (cdv ct : Value) (us ws : List Value), us.length = n → ws.length = ks.length → bindArgs (PySem.W.fnOf x qual params body scope .none kV doc pmv an cdv ct) ⟨us, ks.zip ws⟩ = pure (ps.zip (gP pm us ws))) :
    KBg K fd n ps ks (gP pm) (gP pm) where
  to := fun s us ws _ h1 h2 => by
    obtain ⟨oc, od, dV, kV, doc, pmv, an, cdv, ct, osl, rfl, lk, hcd, hD, hK⟩ := F.ex
    rcases hD with ⟨_, rfl⟩ | ⟨e, _⟩
    · exact .of_eq (h kV doc pmv an cdv ct us ws h1 h2)
    · exact absurd rfl e
  rel := fun r q => gP_rel pm r q
theorem call_of {P : Program} {w : World} {K : PySem.W.Frag} {mg : Str → Option Value} {base : Heap} {l : Lay} {j k : Nat} {Fn : List SV → KA → KX → Prop} {x qual : Str} {params : Arguments} {body : List Stmt} {scope : Scope} {f : Addr} {fd : FuncData} {ps : List Str} (p : Pat)
    (hK : l.K = K) (F : FunD K x qual params body scope [] [] f fd) (hm : mg p.x = some (.ref f)) (hl : ps.length = p.perm.length) (hF : FnG P w K mg base j f fd ps (spF l Fn ps.length)) (hj : j ≤ k)
    (h : ∀ (kV doc pmv : Value) (an : Option Addr) (cdv ct : Value) (us ws : List Value), us.length = p.n → ws.length = p.ks.length → bindArgs (PySem.W.fnOf x qual params body scope .none kV doc pmv an cdv ct) ⟨us, p.ks.zip ws⟩ = pure (ps.zip (gP p.perm us ws))) :
    CallOk P w mg base l k Fn p := by
  subst hK
  exact ⟨f, fd, ps, hm, F.kp, hl, kb_of F h, hF.mono hj⟩
end Un
end
section
/-! Un: the law's own def: the source is made, then the rest. -/
namespace Un
open PySem PySem.Spec PyProof.Rows L2
def spSource (K : PySem.W.Frag) : Sp := fun vs H Q _ => ∃ (a : Addr) (ns : List Int), vs = [.ref a] ∧ SqL K H a (ns.map V.int) ∧ ns.length ≤ 63 ∧ ∀ L H', srcK L → L.ok H' → (∀ b o, H b = some o → H' b = some o) → (∀ b, L.foot b → H b = none) → Q (.ref L.p) H'
def spLaw (K : PySem.W.Frag) : Sp := fun vs H Q _ => ∃ (a : Addr) (ns : List Int), vs = [.ref a] ∧ SqL K H a (ns.map V.int) ∧ ns.length ≤ 63 ∧ ∀ H', Q (.bl true) H'
theorem cut_ints (ns : List Int) (lo hi : Option Int) : cutV (ns.map V.int) lo hi = (Un.cut ns lo hi).map V.int := by
  unfold cutV Un.cut
  rw [List.length_map, ← List.map_drop, ← List.map_take]
theorem rel_law {K : PySem.W.Frag} {L : Loc} {H : Hp} {N : List Str} {v : V} {n : Nat} (ok : L.ok H) (hn : N.length = n + 2) : Rel K L (fun _ => none) H (fun _ => none) ((L2.start N [v]).set 1 (some (.ref L.p))) H (ρLaw n) where
  g := Grow.refl fun _ _ z => nomatch (show (none : Option HO) = some _ from z)
  src := ok
  srcB := ok
  av0 := fun _ _ => rfl
  len := by
    unfold ρLaw L2.start
    rw [List.length_set, List.length_append, List.length_cons, List.length_cons, List.length_replicate, List.length_replicate, List.length_map, hn]
    show n + 1 + 1 = 1 + (n + 2 - 1)
    omega
  slot := fun i r e => by
    unfold L2.start
    rw [hn]
    show ∃ v', ((some v :: List.replicate (n + 2 - 1) none).set 1 (some (V.ref L.p)))[i]? = some v' ∧ SvOk K L H (fun _ => none) H v' r
    rw [show n + 2 - 1 = n + 1 by omega, List.replicate_succ]
    show ∃ v', (some v :: some (V.ref L.p) :: List.replicate n none)[i]? = some v' ∧ _
    match i, e with
    | 0, e =>
      cases e
      exact ⟨_, rfl, trivial⟩
    | 1, e =>
      cases e
      exact ⟨_, rfl, rfl⟩
    | i + 2, e =>
      have e : (List.replicate n SV.un)[i]? = some r := e
      rw [List.getElem?_replicate] at e
      split at e
      · cases e
        refine ⟨none, ?_, trivial⟩
        show (List.replicate n none)[i]? = _
        rw [List.getElem?_replicate, if_pos (by assumption)]
      · cases e
  apart := fun i j r q a hij e1 e2 o1 o2 _ _ => by
    have no : ∀ (i : Nat) r, (ρLaw n)[i]? = some r → isOwn r = true → False := fun i r e o => by
      match i, e with
      | 0, e => cases e; cases o
      | 1, e => cases e; cases o
      | i + 2, e =>
        have e : (List.replicate n SV.un)[i]? = some r := e
        rw [List.getElem?_replicate] at e
        split at e
        · cases e
          cases o
        · cases e
    exact no i r e1 o1
/-- the law's def: true, if the rest comes to that -/
theorem law_fn {P : Program} {w : World} {mg : Str → Option Value} {base : Heap} {l : Lay} {f fS : Addr} {x qual : Str} {params : Arguments} {body rest : List Stmt} {scope : Scope} {dvs : List V} {kws : List (Str × V)} {fd fdS : FuncData} {nc : Nc} {fe : FE} {S : Sm} {j : Nat} {py p1 p2 p3 p4 : Pos}
    (hκ : l.κ = srcK) (F : FunD l.K x qual params body scope dvs kws f fd) (Sc : FnScope nc.N ["_law_script"] scope) (G : Glob P w mg base l nc fe)
    (hb : body = .Assign [.Name "_law_source_here" py] (.Call (.Name "_law_source" p1) [.Name "_law_script" p2] [] p3) p4 :: rest)
    (hN0 : nc.N[0]? = some ("_law_script" : Str)) (hN1 : nc.N[1]? = some ("_law_source_here" : Str)) (hl0 : visB scope "_law_script" = true) (hl1 : locB scope "_law_source_here" = true) (hg : glB scope "_law_source" = true)
    (hm : mg "_law_source" = some (.ref fS)) (hk : PySem.W.keepIn l.K (.ref fS) = true) (hS : FnG P w l.K mg base j fS fdS ["_law_script"] (spSource l.K)) (hj : j ≤ nc.k) (hB : KBg l.K fdS 1 ["_law_script"] [] (gP [0]) (gP [0]))
    (hc : (chkS nc scope S).b rest = true) (good : ex fe noX S (ρLaw (nc.N.length - 2)) fun fl => fl = .rt (.d (.bool true))) : FnG P w l.K mg base (nc.k + 1) f fd ["_law_script"] (spLaw l.K) := by
  subst hb
  refine fn_ofG F Sc (fun vs H Q E h => ?_) fun cdv A outer s H vs Q E hr h => ?_
  · obtain ⟨a, ns, rfl, _⟩ := h
    rfl
  · let lE : Lay := { l with W := fun cls d _ H' => E cls d H' }
    have fit : SFit (cxOf (L2.CX P w) P w l.K mg base nc.N qual scope f cdv A outer s H E) nc scope lE fe :=
      { f := { N := rfl, nd := Sc.nd, sc := rfl, K := rfl, calm := rfl, room := hr, tk := takes_of rfl rfl rfl rfl, mgn := G.mgn, gcd := G.gcd, pats := fun p hp => by
                 obtain ⟨a, fd, ps, q1, q2, q3, q4, q5⟩ := (G.pats p hp).ex
                 exact ⟨a, fd, ps, q1, q2, q3, q4, q5⟩
               csts := G.csts }
        fn := fun _ => rfl
        po := passes_of rfl }
    obtain ⟨a, ns, rfl, hs, hn, hQ⟩ := h
    have o1 := fit.own _ hl1
    have pe : PE (cxOf (L2.CX P w) P w l.K mg base nc.N qual scope f cdv A outer s H E) (.Call (.Name "_law_source" p1) [.Name "_law_script" p2] [] p3) (tCallG (spSource l.K) 1 0 (gP [0]) (fun cls d _ H' => E cls d H') (tCons (tVar 0) tNil) tNil) :=
      pe_callG (kws := []) (hS.mono hj) hr (fit.f.gl hg) hm hk hB fit.f.tk (pa_cons (pe_var hN0 (fit.f.vis hl0)) pa_nil (star_cons rfl [] _)) pk_nil rfl (by decide) (star_cons rfl [] _) rfl
    refine ⟨_, pss_cons (ps_set Sc.nd hN1 o1.1 pe rfl o1.2) ((ssnd S (x := noX) fit).b rest hc), ?_⟩
    refine ⟨_, rfl, rfl, rfl, a, ns, rfl, hs, hn, fun L H' hL ok _ _ => ?_⟩
    have hlen : nc.N.length = (nc.N.length - 2) + 2 := by
      have := (List.getElem?_eq_some_iff.mp hN1).1
      omega
    refine ⟨L, fun _ => none, H', fun _ => none, ρLaw (nc.N.length - 2), _, ⟨by show l.κ L; rw [hκ]; exact hL, rel_law ok hlen, fun _ _ _ _ _ _ _ _ _ _ _ z => z.elim⟩, good, fun fl hfl => ?_⟩
    subst hfl
    intro v Hi' H2 _ _ hv
    have hv : Dq l.K Hi' v (.bool true) := hv
    cases hv
    exact hQ _
/-- one object, one def -/
theorem fd_same {K : PySem.W.Frag} {x qual : Str} {params : Arguments} {body : List Stmt} {scope : Scope} {dvs : List V} {kws : List (Str × V)} {f : Addr} {fd fd2 : FuncData} (F : FunD K x qual params body scope dvs kws f fd) (F2 : FunD K x qual params body scope dvs kws f fd2) : fd = fd2 := by
  obtain ⟨oc, od, dV, kV, doc, pm, an, cdv, ct, osl, e, lk, _⟩ := F.ex
  obtain ⟨oc2, od2, dV2, kV2, doc2, pm2, an2, cdv2, ct2, osl2, e2, lk2, _⟩ := F2.ex
  rw [lk] at lk2
  have h := Option.some.inj lk2
  rw [Obj.mk.injEq] at h
  exact Data.func.inj h.2.2.1
end Un
end
section
/-! Un: how the meaning of a term is read off, step by step (for simp). -/
namespace Un
open PySem
section
variable {fe : FE} {x : KX} {ρ : List SV} {k : KA}
@[simp] theorem v_dat {d} : (ev fe x (.dat d)).v ρ k = k (.d d) := rfl
@[simp] theorem v_var {i} : (ev fe x (.var i)).v ρ k = varW ρ i k := rfl
@[simp] theorem v_bin {o a b} : (ev fe x (.bin o a b)).v ρ k = (ev fe x a).v ρ fun p => (ev fe x b).v ρ fun q => w2 o p q k := rfl
@[simp] theorem v_un {o a} : (ev fe x (.un o a)).v ρ k = (ev fe x a).v ρ fun p => w1 o p k := rfl
@[simp] theorem v_fn2 {o a b} : (ev fe x (.fn2 o a b)).v ρ k = (ev fe x a).v ρ fun p => (ev fe x b).v ρ fun q => w3 o p q k := rfl
@[simp] theorem v_band {a b} : (ev fe x (.band a b)).v ρ k = (ev fe x a).v ρ fun p => ∃ c, p = .d (.bool c) ∧ if c = true then (ev fe x b).v ρ k else k (.d (.bool false)) := rfl
@[simp] theorem v_bor {a b} : (ev fe x (.bor a b)).v ρ k = (ev fe x a).v ρ fun p => ∃ c, p = .d (.bool c) ∧ if c = true then k (.d (.bool true)) else (ev fe x b).v ρ k := rfl
@[simp] theorem v_bnot {a} : (ev fe x (.bnot a)).v ρ k = (ev fe x a).v ρ fun p => ∃ c, p = .d (.bool c) ∧ k (.d (.bool (!c))) := rfl
@[simp] theorem v_ife {c a b} : (ev fe x (.ife c a b)).v ρ k = (ev fe x c).t ρ fun t => if t = true then (ev fe x a).v ρ k else (ev fe x b).v ρ k := rfl
@[simp] theorem v_tup {es} : (ev fe x (.tup es)).v ρ k = (ev fe x es).l ρ fun as => ∃ xs, embs? as = some xs ∧ xs.length ≤ sizeLine ∧ k (.d (.tuple xs)) := rfl
@[simp] theorem v_lst {es} : (ev fe x (.lst es)).v ρ k = (ev fe x es).l ρ fun as => ∃ xs, embs? as = some xs ∧ xs.length ≤ sizeLine ∧ k (.new xs) := rfl
@[simp] theorem v_slc {a lo hi} : (ev fe x (.slc a lo hi)).v ρ k = (ev fe x a).v ρ fun p => (ev fe x lo).o ρ fun l => (ev fe x hi).o ρ fun h => slcW p l h k := rfl
@[simp] theorem v_rev {a} : (ev fe x (.rev a)).v ρ k = (ev fe x a).v ρ fun p => revW p k := rfl
@[simp] theorem v_call {f perm es ks} : (ev fe x (.call f perm es ks)).v ρ k = (ev fe x es).l ρ fun as => as.length = eLen es ∧ (ev fe x ks).l ρ fun bs => bs.length = eLen ks ∧ ∃ cs, permL ((as ++ bs).map argOf) perm = some cs ∧ callW fe x f ((as ++ bs).any AV.isBor) cs k := rfl
@[simp] theorem v_cmp {own elt tg it c} : (ev fe x (.cmp own elt tg it c)).v ρ k = (ev fe x it).i ρ fun xs =>
      cmpW tg (if isNo c = true then none else some (ev fe (fun _ _ => False) c).t) (ev fe (fun _ _ => False) elt).v (wipeS ρ own) xs [] fun ys => k (.new ys) := rfl
@[simp] theorem v_max3 {a b c} : (ev fe x (.max3 a b c)).v ρ k = (ev fe x a).v ρ fun p => (ev fe x b).v ρ fun q => (ev fe x c).v ρ fun r => max3W p q r k := rfl
variable {kt : Bool → Prop}
@[simp] theorem t_dat {d} : (ev fe x (.dat d)).t ρ kt = truthW (.d d) kt := rfl
@[simp] theorem t_var {i} : (ev fe x (.var i)).t ρ kt = varW ρ i fun a => truthW a kt := rfl
@[simp] theorem t_bin {o a b} : (ev fe x (.bin o a b)).t ρ kt = (ev fe x a).v ρ fun p => (ev fe x b).v ρ fun q => w2 o p q fun a => truthW a kt := rfl
@[simp] theorem t_un {o a} : (ev fe x (.un o a)).t ρ kt = (ev fe x a).v ρ fun p => w1 o p fun a => truthW a kt := rfl
@[simp] theorem t_call {f perm es ks} : (ev fe x (.call f perm es ks)).t ρ kt = (ev fe x (.call f perm es ks)).v ρ fun a => truthW a kt := rfl
@[simp] theorem t_band {a b} : (ev fe x (.band a b)).t ρ kt = (ev fe x a).t ρ fun c => if c = true then (ev fe x b).t ρ kt else kt false := rfl
@[simp] theorem t_bor {a b} : (ev fe x (.bor a b)).t ρ kt = (ev fe x a).t ρ fun c => if c = true then kt true else (ev fe x b).t ρ kt := rfl
@[simp] theorem t_bnot {a} : (ev fe x (.bnot a)).t ρ kt = (ev fe x a).t ρ fun c => kt (!c) := rfl
variable {ki : List PyData → Prop}
@[simp] theorem i_var {i} : (ev fe x (.var i)).i ρ ki = varW ρ i fun a => seqW a ki := rfl
@[simp] theorem i_dat {d} : (ev fe x (.dat d)).i ρ ki = seqW (.d d) ki := rfl
@[simp] theorem i_bin {o a b} : (ev fe x (.bin o a b)).i ρ ki = (ev fe x (.bin o a b)).v ρ fun a => seqW a ki := rfl
@[simp] theorem i_un {o a} : (ev fe x (.un o a)).i ρ ki = (ev fe x (.un o a)).v ρ fun a => seqW a ki := rfl
@[simp] theorem i_lst {es} : (ev fe x (.lst es)).i ρ ki = (ev fe x (.lst es)).v ρ fun a => seqW a ki := rfl
@[simp] theorem i_tup {es} : (ev fe x (.tup es)).i ρ ki = (ev fe x (.tup es)).v ρ fun a => seqW a ki := rfl
@[simp] theorem i_slc {a b c} : (ev fe x (.slc a b c)).i ρ ki = (ev fe x (.slc a b c)).v ρ fun a => seqW a ki := rfl
@[simp] theorem i_rev {a} : (ev fe x (.rev a)).i ρ ki = (ev fe x (.rev a)).v ρ fun a => seqW a ki := rfl
@[simp] theorem i_call {f perm es ks} : (ev fe x (.call f perm es ks)).i ρ ki = (ev fe x (.call f perm es ks)).v ρ fun a => seqW a ki := rfl
@[simp] theorem i_cmp {own elt tg it c} : (ev fe x (.cmp own elt tg it c)).i ρ ki = (ev fe x (.cmp own elt tg it c)).v ρ fun a => seqW a ki := rfl
@[simp] theorem i_rng1 {a} : (ev fe x (.rng1 a)).i ρ ki = (ev fe x a).v ρ fun p => intW p fun n => RngOk n ∧ ki (rngL 0 1 n.toNat) := rfl
@[simp] theorem i_rng2 {a b} : (ev fe x (.rng2 a b)).i ρ ki = (ev fe x a).v ρ fun p => (ev fe x b).v ρ fun q => intW p fun m => intW q fun n => (RngOk m ∧ RngOk n) ∧ ki (rngL m 1 (n - m).toNat) := rfl
@[simp] theorem i_rng3 {a b c} : (ev fe x (.rng3 a b c)).i ρ ki = (ev fe x a).v ρ fun p => (ev fe x b).v ρ fun q => (ev fe x c).v ρ fun r => intW p fun m => intW q fun n => intW r fun s => ∃ c, L2.RgC m n s c ∧ ki (rngL m s c) := rfl
@[simp] theorem i_enu {a} : (ev fe x (.enu a)).i ρ ki = (ev fe x a).v ρ fun p => seqW p fun xs => ki (enuL 0 xs) := rfl
@[simp] theorem i_zip {a b} : (ev fe x (.zip2 a b)).i ρ ki = (ev fe x a).v ρ fun p => (ev fe x b).v ρ fun q => seq2W p q fun xs ys => ki (zipL xs ys) := rfl
@[simp] theorem i_rvd {a} : (ev fe x (.rvd a)).i ρ ki = (ev fe x a).v ρ fun p => seqW p fun xs => ki xs.reverse := rfl
variable {ko : Option Int → Prop} {kl : List AV → Prop}
@[simp] theorem o_no : (ev fe x .no).o ρ ko = ko none := rfl
@[simp] theorem o_dat {d} : (ev fe x (.dat d)).o ρ ko = intW (.d d) fun n => ko (some n) := rfl
@[simp] theorem o_var {i} : (ev fe x (.var i)).o ρ ko = varW ρ i fun a => intW a fun n => ko (some n) := rfl
@[simp] theorem o_un {o a} : (ev fe x (.un o a)).o ρ ko = (ev fe x (.un o a)).v ρ fun a => intW a fun n => ko (some n) := rfl
@[simp] theorem o_bin {o a b} : (ev fe x (.bin o a b)).o ρ ko = (ev fe x (.bin o a b)).v ρ fun a => intW a fun n => ko (some n) := rfl
@[simp] theorem l_nil : (ev fe x .nil).l ρ kl = kl [] := rfl
@[simp] theorem l_cons {a r} : (ev fe x (.cons a r)).l ρ kl = (ev fe x a).v ρ fun p => (ev fe x r).l ρ fun ps => kl (p :: ps) := rfl
variable {kf : KF}
@[simp] theorem x_set {i e} : ex fe x (.set i e) ρ kf = (ev fe x e).v ρ fun a => setW ρ i a fun ρ' => kf (.nx ρ') := rfl
@[simp] theorem x_unp {is e} : ex fe x (.unp is e) ρ kf = (ev fe x e).v ρ fun a => ∃ xs, a.items? = some xs ∧ ∃ ρ', setD is xs ρ = some ρ' ∧ kf (.nx ρ') := rfl
@[simp] theorem x_par {is es} : ex fe x (.par is es) ρ kf = (ev fe x es).l ρ fun as => setA is as ρ fun ρ' => kf (.nx ρ') := rfl
@[simp] theorem x_put {i j e} : ex fe x (.put i j e) ρ kf = (ev fe x e).v ρ fun a => ∃ y, a.emb? = some y ∧ ∃ xs, ρ[i]? = some (.own xs) ∧
      (ev fe x j).v ρ fun p => intW p fun n => ∃ m, ixOf xs.length n = some m ∧ kf (.nx (ρ.set i (.own (xs.set m y)))) := rfl
@[simp] theorem x_app {i e} : ex fe x (.app i e) ρ kf = ∃ xs, ρ[i]? = some (.own xs) ∧ (ev fe x e).v ρ fun a => ∃ y, a.emb? = some y ∧ xs.length < sizeLine ∧ kf (.nx (ρ.set i (.own (xs ++ [y])))) := rfl
@[simp] theorem x_ret {e} : ex fe x (.ret e) ρ kf = (ev fe x e).v ρ fun a => kf (.rt a) := rfl
@[simp] theorem x_retN : ex fe x .retN ρ kf = kf (.rt (.d .none)) := rfl
@[simp] theorem x_drop {e} : ex fe x (.drop e) ρ kf = (ev fe x e).v ρ fun _ => kf (.nx ρ) := rfl
@[simp] theorem x_ifs {c a b} : ex fe x (.ifs c a b) ρ kf = (ev fe x c).t ρ fun t => if t = true then ex fe x a ρ kf else ex fe x b ρ kf := rfl
@[simp] theorem x_loop {tg it b} : ex fe x (.loop tg it b) ρ kf = (ev fe x it).i ρ fun xs => loopW tg (ex fe x b) xs ρ kf := rfl
@[simp] theorem x_whl {c b} : ex fe x (.whl c b) ρ kf = ∃ n, whlW (ev fe x c).t (ex fe x b) n ρ kf := rfl
@[simp] theorem x_brk : ex fe x .brk ρ kf = kf (.bk ρ) := rfl
@[simp] theorem x_cnt : ex fe x .cnt ρ kf = kf (.ct ρ) := rfl
@[simp] theorem x_pass : ex fe x .pass ρ kf = kf (.nx ρ) := rfl
@[simp] theorem x_frz {i} : ex fe x (.frz i) ρ kf = ∃ xs, ρ[i]? = some (.own xs) ∧ kf (.nx (ρ.set i (.d (.list xs)))) := rfl
@[simp] theorem x_nil : ex fe x .nil ρ kf = kf (.nx ρ) := rfl
@[simp] theorem x_cons {s r} : ex fe x (.cons s r) ρ kf = ex fe x s ρ fun fl => match fl with
    | .nx ρ' => ex fe x r ρ' kf
    | o => kf o := rfl
end
section
variable {k : KA} {i j : Int}
@[simp] theorem var0 {r ρ} : varW (r :: ρ) 0 k = (match r with | .d x => k (.d x) | .own xs => k (.bor xs) | .src => k .src | .un => False) := by cases r <;> rfl
@[simp] theorem varS {r ρ n} : varW (r :: ρ) (n + 1) k = varW ρ n k := rfl
@[simp] theorem var1 {r ρ} : varW (r :: ρ) 1 k = varW ρ 0 k := rfl
@[simp] theorem var2 {r s ρ} : varW (r :: s :: ρ) 2 k = varW ρ 0 k := rfl
@[simp] theorem var3 {r s t ρ} : varW (r :: s :: t :: ρ) 3 k = varW ρ 0 k := rfl
@[simp] theorem var4 {r s t u ρ} : varW (r :: s :: t :: u :: ρ) 4 k = varW ρ 0 k := rfl
@[simp] theorem var5 {r s t u v ρ} : varW (r :: s :: t :: u :: v :: ρ) 5 k = varW ρ 0 k := rfl
@[simp] theorem var6 {r s t u v w ρ} : varW (r :: s :: t :: u :: v :: w :: ρ) 6 k = varW ρ 0 k := rfl
@[simp] theorem var7 {r s t u v w y ρ} : varW (r :: s :: t :: u :: v :: w :: y :: ρ) 7 k = varW ρ 0 k := rfl
@[simp] theorem var8 {r s t u v w y z ρ} : varW (r :: s :: t :: u :: v :: w :: y :: z :: ρ) 8 k = varW ρ 0 k := rfl
theorem w2_intro {o a b x y} (h : b2 o x y k) (ha : a.dat? = some x) (hb : b.dat? = some y) : w2 o a b k := ⟨x, y, ha, hb, h⟩
@[simp] theorem add_int : w2 .add (.d (.int i)) (.d (.int j)) k ↔ k (.d (.int (i + j))) := ⟨fun ⟨_, _, h1, h2, h⟩ => by cases h1; cases h2; exact h, fun h => ⟨_, _, rfl, rfl, h⟩⟩
@[simp] theorem sub_int : w2 .sub (.d (.int i)) (.d (.int j)) k ↔ k (.d (.int (i - j))) := ⟨fun ⟨_, _, h1, h2, h⟩ => by cases h1; cases h2; exact h, fun h => ⟨_, _, rfl, rfl, h⟩⟩
@[simp] theorem mul_int : w2 .mul (.d (.int i)) (.d (.int j)) k ↔ MulOk i j ∧ k (.d (.int (i * j))) := ⟨fun ⟨_, _, h1, h2, h⟩ => by cases h1; cases h2; exact h, fun h => ⟨_, _, rfl, rfl, h⟩⟩
@[simp] theorem fdiv_int : w2 .fdiv (.d (.int i)) (.d (.int j)) k ↔ DivOk j ∧ k (.d (.int (i.fdiv j))) := ⟨fun ⟨_, _, h1, h2, h⟩ => by cases h1; cases h2; exact h, fun h => ⟨_, _, rfl, rfl, h⟩⟩
@[simp] theorem mod_int : w2 .mod (.d (.int i)) (.d (.int j)) k ↔ j ≠ 0 ∧ k (.d (.int (i.fmod j))) := ⟨fun ⟨_, _, h1, h2, h⟩ => by cases h1; cases h2; exact h, fun h => ⟨_, _, rfl, rfl, h⟩⟩
theorem shp_int : shp (.int i) := by simp [shp, SeqAt.shaped, PyData.canLay0, PyData.depth]
@[simp] theorem eq_int : w2 .eq (.d (.int i)) (.d (.int j)) k ↔ k (.d (.bool (decide (i = j)))) := by
  have e : PyData.eqv (.int i) (.int j) = decide (i = j) := by
    show (i == j) = _
    by_cases h : i = j <;> simp [h]
  constructor
  · rintro ⟨_, _, h1, h2, h⟩
    cases h1
    cases h2
    obtain ⟨_, _, h⟩ := h
    rwa [e] at h
  · intro h
    exact ⟨_, _, rfl, rfl, shp_int, shp_int, by rw [e]; exact h⟩
@[simp] theorem ne_int : w2 .ne (.d (.int i)) (.d (.int j)) k ↔ k (.d (.bool (!decide (i = j)))) := by
  have e : PyData.eqv (.int i) (.int j) = decide (i = j) := by
    show (i == j) = _
    by_cases h : i = j <;> simp [h]
  constructor
  · rintro ⟨_, _, h1, h2, h⟩
    cases h1
    cases h2
    obtain ⟨_, _, h⟩ := h
    rwa [e] at h
  · intro h
    exact ⟨_, _, rfl, rfl, shp_int, shp_int, by rw [e]; exact h⟩
@[simp] theorem lt_int : w2 .lt (.d (.int i)) (.d (.int j)) k ↔ k (.d (.bool (decide (i < j)))) := ⟨fun ⟨_, _, h1, h2, h⟩ => by cases h1; cases h2; exact h, fun h => ⟨_, _, rfl, rfl, h⟩⟩
@[simp] theorem le_int : w2 .le (.d (.int i)) (.d (.int j)) k ↔ k (.d (.bool (decide (i ≤ j)))) := ⟨fun ⟨_, _, h1, h2, h⟩ => by cases h1; cases h2; exact h, fun h => ⟨_, _, rfl, rfl, h⟩⟩
@[simp] theorem gt_int : w2 .gt (.d (.int i)) (.d (.int j)) k ↔ k (.d (.bool (decide (j < i)))) := ⟨fun ⟨_, _, h1, h2, h⟩ => by cases h1; cases h2; exact h, fun h => ⟨_, _, rfl, rfl, h⟩⟩
@[simp] theorem ge_int : w2 .ge (.d (.int i)) (.d (.int j)) k ↔ k (.d (.bool (decide (j ≤ i)))) := ⟨fun ⟨_, _, h1, h2, h⟩ => by cases h1; cases h2; exact h, fun h => ⟨_, _, rfl, rfl, h⟩⟩
theorem at0 {α : Type} {a : α} {r : List α} : atIx (a :: r) 0 = some a := by simp [atIx, L2.atI, L2.ixN] <;> omega
theorem at1 {α : Type} {a b : α} {r : List α} : atIx (a :: b :: r) 1 = some b := by
  have h : (1 : Int) < (r.length : Int) + 1 + 1 := by omega
  simp [atIx, L2.atI, L2.ixN, h]
@[simp] theorem idx0 {a r} : w2 .idx (.d (.tuple (a :: r))) (.d (.int 0)) k ↔ k (.d a) := ⟨fun ⟨_, _, h1, h2, h⟩ => by
  cases h1
  cases h2
  obtain ⟨v, e, h⟩ := h
  rw [at0] at e
  cases e
  exact h, fun h => ⟨_, _, rfl, rfl, a, at0, h⟩⟩
@[simp] theorem idx1 {a b r} : w2 .idx (.d (.tuple (a :: b :: r))) (.d (.int 1)) k ↔ k (.d b) := ⟨fun ⟨_, _, h1, h2, h⟩ => by
  cases h1
  cases h2
  obtain ⟨v, e, h⟩ := h
  rw [at1] at e
  cases e
  exact h, fun h => ⟨_, _, rfl, rfl, b, at1, h⟩⟩
@[simp] theorem tr_bool {b : Bool} {kt : Bool → Prop} : truthW (.d (.bool b)) kt ↔ kt b := ⟨fun ⟨_, h1, h⟩ => by cases h1; exact h, fun h => ⟨_, rfl, h⟩⟩
@[simp] theorem neg_int : w1 .neg (.d (.int i)) k ↔ k (.d (.int (-i))) := ⟨fun ⟨_, h1, h⟩ => by cases h1; exact h, fun h => ⟨_, rfl, h⟩⟩
@[simp] theorem abs_int : w1 .abs (.d (.int i)) k ↔ k (.d (.int (if i < 0 then -i else i))) := ⟨fun ⟨_, h1, h⟩ => by cases h1; exact h, fun h => ⟨_, rfl, h⟩⟩
@[simp] theorem int_int : w1 .int (.d (.int i)) k ↔ k (.d (.int i)) := ⟨fun ⟨_, h1, h⟩ => by cases h1; exact h, fun h => ⟨_, rfl, h⟩⟩
@[simp] theorem f3_int {o} : w3 o (.d (.int i)) (.d (.int j)) k ↔ k (.d (.int (b3 o i j))) := ⟨fun ⟨_, _, h1, h2, h⟩ => by cases h1; cases h2; exact h, fun h => ⟨_, _, rfl, rfl, h⟩⟩
@[simp] theorem int_w {ki : Int → Prop} : intW (.d (.int i)) ki ↔ ki i := ⟨fun ⟨_, h1, h⟩ => by cases h1; exact h, fun h => ⟨_, rfl, h⟩⟩
@[simp] theorem seq_t {xs ki} : seqW (.d (.tuple xs)) ki ↔ ki xs := ⟨fun ⟨_, h1, h⟩ => by cases h1; exact h, fun h => ⟨_, rfl, h⟩⟩
@[simp] theorem seq_l {xs ki} : seqW (.d (.list xs)) ki ↔ ki xs := ⟨fun ⟨_, h1, h⟩ => by cases h1; exact h, fun h => ⟨_, rfl, h⟩⟩
@[simp] theorem seq_n {xs ki} : seqW (.new xs) ki ↔ ki xs := ⟨fun ⟨_, h1, h⟩ => by cases h1; exact h, fun h => ⟨_, rfl, h⟩⟩
@[simp] theorem set_d {ρ n x} {kr : List SV → Prop} : setW ρ n (.d x) kr = kr (ρ.set n (.d x)) := rfl
@[simp] theorem set_n {ρ n xs} {kr : List SV → Prop} : setW ρ n (.new xs) kr = kr (ρ.set n (.own xs)) := rfl
@[simp] theorem set_s {ρ n} {kr : List SV → Prop} : setW ρ n .src kr = kr (ρ.set n .src) := rfl
@[simp] theorem setA_nil {ρ} {kr : List SV → Prop} : setA [] [] ρ kr = kr ρ := rfl
@[simp] theorem setA_cons {i is a as ρ} {kr : List SV → Prop} : setA (i :: is) (a :: as) ρ kr = setW ρ i a fun ρ' => setA is as ρ' kr := rfl
@[simp] theorem embs_nil : embs? [] = some [] := rfl
@[simp] theorem embs_d {x as} : embs? (.d x :: as) = (embs? as).map (x :: ·) := by
  show (match AV.emb? (.d x), embs? as with | some x, some xs => some (x :: xs) | _, _ => none) = _
  cases embs? as <;> rfl
@[simp] theorem embs_n {x as} : embs? (.new x :: as) = (embs? as).map (.list x :: ·) := by
  show (match AV.emb? (.new x), embs? as with | some x, some xs => some (x :: xs) | _, _ => none) = _
  cases embs? as <;> rfl
@[simp] theorem items_t {xs} : AV.items? (.d (.tuple xs)) = some xs := rfl
@[simp] theorem items_l {xs} : AV.items? (.d (.list xs)) = some xs := rfl
@[simp] theorem items_n {xs} : AV.items? (.new xs) = some xs := rfl
@[simp] theorem items_b {xs} : AV.items? (.bor xs) = some xs := rfl
@[simp] theorem m3_int {i j l k} : max3W (.d (.int i)) (.d (.int j)) (.d (.int l)) k ↔ k (.d (.int (b3 .max (b3 .max i j) l))) := ⟨fun ⟨_, _, _, h1, h2, h3, h⟩ => by cases h1; cases h2; cases h3; exact h, fun h => ⟨_, _, _, rfl, rfl, rfl, h⟩⟩
@[simp] theorem emb_d {x} : AV.emb? (.d x) = some x := rfl
@[simp] theorem emb_n {x} : AV.emb? (.new x) = some (.list x) := rfl
@[simp] theorem leave_d {y} : leaveW (.d y) k = k (.d y) := rfl
@[simp] theorem leave_n {y} : leaveW (.new y) k = k (.new y) := rfl
@[simp] theorem leave_b {y} : leaveW (.bor y) k = k (.new y) := rfl
@[simp] theorem bor_d {y} : AV.isBor (.d y) = false := rfl
@[simp] theorem bor_n {y} : AV.isBor (.new y) = false := rfl
@[simp] theorem bor_s : AV.isBor .src = false := rfl
@[simp] theorem bor_b {y} : AV.isBor (.bor y) = true := rfl
@[simp] theorem arg_d {y} : argOf (.d y) = .d y := rfl
@[simp] theorem arg_n {y} : argOf (.new y) = .d (.list y) := rfl
@[simp] theorem arg_b {y} : argOf (.bor y) = .d (.list y) := rfl
@[simp] theorem arg_s : argOf .src = .src := rfl
@[simp] theorem elen_n : eLen .nil = 0 := rfl
@[simp] theorem elen_c {a r} : eLen (.cons a r) = eLen r + 1 := rfl
@[simp] theorem call_f {fe x f args} : callW fe x f false args k = fe f args k x := rfl
@[simp] theorem call_t {fe x f args} : callW fe x f true args k = fe f args (fun r => ∃ y, r = .d y ∧ bare y = true ∧ k r) (fun _ _ => False) := rfl
@[simp] theorem perm_nil {α : Type} {l : List α} : permL l [] = some [] := rfl
@[simp] theorem perm_c {α : Type} {l : List α} {i r} : permL l (i :: r) = (match l[i]?, permL l r with
    | some a, some as => some (a :: as)
    | _, _ => none) := rfl
theorem sz (n : Nat) (h : n ≤ 1000) : n ≤ sizeLine := Nat.le_trans h (by decide)
@[simp] theorem isT_t {xs k} : w1 .isTuple (.d (.tuple xs)) k ↔ k (.d (.bool true)) := ⟨fun ⟨_, h1, h⟩ => by cases h1; exact h, fun h => ⟨_, rfl, h⟩⟩
@[simp] theorem isI_i {i : Int} {k} : w1 .isInt (.d (.int i)) k ↔ k (.d (.bool true)) := ⟨fun ⟨_, h1, h⟩ => by cases h1; exact h, fun h => ⟨_, rfl, h⟩⟩
@[simp] theorem isB_i {i : Int} {k} : w1 .isBool (.d (.int i)) k ↔ k (.d (.bool false)) := ⟨fun ⟨_, h1, h⟩ => by cases h1; exact h, fun h => ⟨_, rfl, h⟩⟩
theorem szl {n : Nat} (h : n ≤ 1000) : (n ≤ sizeLine) = True := eq_true (sz n h)
end
end Un
end
section
namespace Pg
open PySem Un
abbrev n_lowest : List Str := ["top", "bottom", "divisor"]
def b_lowest : Sm := (.cons (.set 2 (.fn2 .gcd (.var 0) (.var 1))) (.cons (.ifs (.bin .lt (.var 1) (.dat (.int 0))) (.cons (.set 2 (.bin .sub (.dat (.int 0)) (.var 2))) .nil) .nil) (.cons (.ret (.tup (.cons (.bin .fdiv (.var 0) (.var 2)) (.cons (.bin .fdiv (.var 1) (.var 2)) .nil)))) .nil)))
def fe_lowest : FE := fun _ _ _ _ => False
def F_lowest : List SV → KA → KX → Prop := runF fe_lowest 2 3 b_lowest
abbrev n_plus : List Str := ["f", "g"]
def b_plus : Sm := (.cons (.ifs (.band (.bin .eq (.bin .idx (.var 0) (.dat (.int 1))) (.dat (.int 1))) (.bin .eq (.bin .idx (.var 1) (.dat (.int 1))) (.dat (.int 1)))) (.cons (.ret (.tup (.cons (.bin .add (.bin .idx (.var 0) (.dat (.int 0))) (.bin .idx (.var 1) (.dat (.int 0)))) (.cons (.dat (.int 1)) .nil)))) .nil) .nil) (.cons (.ret (.call 1 [0, 1] (.cons (.bin .add (.bin .mul (.bin .idx (.var 0) (.dat (.int 0))) (.bin .idx (.var 1) (.dat (.int 1)))) (.bin .mul (.bin .idx (.var 1) (.dat (.int 0))) (.bin .idx (.var 0) (.dat (.int 1))))) (.cons (.bin .mul (.bin .idx (.var 0) (.dat (.int 1))) (.bin .idx (.var 1) (.dat (.int 1)))) .nil)) .nil)) .nil))
def fe_plus : FE := fun f => match f with
  | 1 => F_lowest
  | _ => fun _ _ _ => False
def F_plus : List SV → KA → KX → Prop := runF fe_plus 2 2 b_plus
abbrev n_times : List Str := ["f", "g"]
def b_times : Sm := (.cons (.ifs (.band (.bin .eq (.bin .idx (.var 0) (.dat (.int 1))) (.dat (.int 1))) (.bin .eq (.bin .idx (.var 1) (.dat (.int 1))) (.dat (.int 1)))) (.cons (.ret (.tup (.cons (.bin .mul (.bin .idx (.var 0) (.dat (.int 0))) (.bin .idx (.var 1) (.dat (.int 0)))) (.cons (.dat (.int 1)) .nil)))) .nil) .nil) (.cons (.ret (.call 1 [0, 1] (.cons (.bin .mul (.bin .idx (.var 0) (.dat (.int 0))) (.bin .idx (.var 1) (.dat (.int 0)))) (.cons (.bin .mul (.bin .idx (.var 0) (.dat (.int 1))) (.bin .idx (.var 1) (.dat (.int 1)))) .nil)) .nil)) .nil))
def fe_times : FE := fun f => match f with
  | 1 => F_lowest
  | _ => fun _ _ _ => False
def F_times : List SV → KA → KX → Prop := runF fe_times 2 2 b_times
abbrev n_trimmed : List Str := ["factors", "size"]
def b_trimmed : Sm := (.cons (.set 1 (.un .len (.var 0))) (.cons (.whl (.band (.bin .gt (.var 1) (.dat (.int 0))) (.bin .eq (.bin .idx (.var 0) (.bin .sub (.var 1) (.dat (.int 1)))) (.dat (.tuple [(.int 0), (.int 1)])))) (.cons (.set 1 (.bin .sub (.var 1) (.dat (.int 1)))) .nil)) (.cons (.ret (.un .tuple (.slc (.var 0) .no (.var 1)))) .nil)))
def fe_trimmed : FE := fun _ _ _ _ => False
def F_trimmed : List SV → KA → KX → Prop := runF fe_trimmed 1 2 b_trimmed
abbrev n_at : List Str := ["p", "f", "value", "factor"]
def b_at : Sm := (.cons (.set 2 (.dat (.tuple [(.int 0), (.int 1)]))) (.cons (.loop (.nm 3) (.rev (.var 0)) (.cons (.set 2 (.call 2 [0, 1] (.cons (.call 3 [0, 1] (.cons (.var 2) (.cons (.var 1) .nil)) .nil) (.cons (.var 3) .nil)) .nil)) .nil)) (.cons (.ret (.var 2)) .nil)))
def fe_at : FE := fun f => match f with
  | 2 => F_plus
  | 3 => F_times
  | _ => fun _ _ _ => False
def F_at : List SV → KA → KX → Prop := runF fe_at 2 4 b_at
abbrev n_added : List Str := ["p", "q", "found", "shorter", "longer", "one", "other"]
def b_added : Sm := (.cons (.unp [3, 4] (.ife (.bin .lt (.un .len (.var 0)) (.un .len (.var 1))) (.tup (.cons (.var 0) (.cons (.var 1) .nil))) (.tup (.cons (.var 1) (.cons (.var 0) .nil))))) (.cons (.set 2 (.cmp [5, 6] (.call 2 [0, 1] (.cons (.var 5) (.cons (.var 6) .nil)) .nil) (.tp [5, 6]) (.zip2 (.var 3) (.var 4)) .no)) (.cons (.frz 2) (.cons (.ret (.call 4 [0] (.cons (.bin .add (.var 2) (.un .list (.slc (.var 4) (.un .len (.var 3)) .no))) .nil) .nil)) .nil))))
def fe_added : FE := fun f => match f with
  | 2 => F_plus
  | 4 => F_trimmed
  | _ => fun _ _ _ => False
def F_added : List SV → KA → KX → Prop := runF fe_added 2 7 b_added
abbrev n_multiplied : List Str := ["p", "q", "found", "power", "one", "further", "other"]
def b_multiplied : Sm := (.cons (.set 2 (.bin .mul (.lst (.cons (.dat (.tuple [(.int 0), (.int 1)])) .nil)) (.fn2 .max (.dat (.int 0)) (.bin .sub (.bin .add (.un .len (.var 0)) (.un .len (.var 1))) (.dat (.int 1)))))) (.cons (.loop (.tp [3, 4]) (.enu (.var 0)) (.cons (.loop (.tp [5, 6]) (.enu (.var 1)) (.cons (.put 2 (.bin .add (.var 3) (.var 5)) (.call 2 [0, 1] (.cons (.bin .idx (.var 2) (.bin .add (.var 3) (.var 5))) (.cons (.call 3 [0, 1] (.cons (.var 4) (.cons (.var 6) .nil)) .nil) .nil)) .nil)) .nil)) .nil)) (.cons (.ret (.call 4 [0] (.cons (.var 2) .nil) .nil)) .nil)))
def fe_multiplied : FE := fun f => match f with
  | 2 => F_plus
  | 3 => F_times
  | 4 => F_trimmed
  | _ => fun _ _ _ => False
def F_multiplied : List SV → KA → KX → Prop := runF fe_multiplied 2 7 b_multiplied
abbrev n_scaled : List Str := ["p", "f", "factor"]
def b_scaled : Sm := (.cons (.ret (.call 4 [0] (.cons (.cmp [2] (.call 3 [0, 1] (.cons (.var 2) (.cons (.var 1) .nil)) .nil) (.nm 2) (.var 0) .no) .nil) .nil)) .nil)
def fe_scaled : FE := fun f => match f with
  | 4 => F_trimmed
  | 3 => F_times
  | _ => fun _ _ _ => False
def F_scaled : List SV → KA → KX → Prop := runF fe_scaled 2 3 b_scaled
abbrev n_slope_of : List Str := ["p", "power", "factor"]
def b_slope_of : Sm := (.cons (.ret (.un .tuple (.cmp [1, 2] (.call 3 [0, 1] (.cons (.var 2) (.cons (.tup (.cons (.var 1) (.cons (.dat (.int 1)) .nil))) .nil)) .nil) (.tp [1, 2]) (.enu (.var 0)) (.bin .gt (.var 1) (.dat (.int 0)))))) .nil)
def fe_slope_of : FE := fun f => match f with
  | 3 => F_times
  | _ => fun _ _ _ => False
def F_slope_of : List SV → KA → KX → Prop := runF fe_slope_of 1 3 b_slope_of
abbrev n_heap_of : List Str := ["p", "power", "factor"]
def b_heap_of : Sm := (.cons (.ifs (.bin .eq (.var 0) (.tup .nil)) (.cons (.ret (.tup .nil)) .nil) .nil) (.cons (.ret (.bin .add (.tup (.cons (.dat (.tuple [(.int 0), (.int 1)])) .nil)) (.un .tuple (.cmp [1, 2] (.call 3 [0, 1] (.cons (.var 2) (.cons (.tup (.cons (.dat (.int 1)) (.cons (.bin .add (.var 1) (.dat (.int 1))) .nil))) .nil)) .nil) (.tp [1, 2]) (.enu (.var 0)) .no)))) .nil))
def fe_heap_of : FE := fun f => match f with
  | 3 => F_times
  | _ => fun _ _ _ => False
def F_heap_of : List SV → KA → KX → Prop := runF fe_heap_of 1 3 b_heap_of
abbrev n_shifted : List Str := ["p", "f", "found", "first", "power"]
def b_shifted : Sm := (.cons (.set 2 (.un .list (.var 0))) (.cons (.loop (.nm 3) (.rng1 (.bin .sub (.un .len (.var 2)) (.dat (.int 1)))) (.cons (.loop (.nm 4) (.rng3 (.bin .sub (.un .len (.var 2)) (.dat (.int 2))) (.bin .sub (.var 3) (.dat (.int 1))) (.un .neg (.dat (.int 1)))) (.cons (.put 2 (.var 4) (.call 2 [0, 1] (.cons (.bin .idx (.var 2) (.var 4)) (.cons (.call 3 [0, 1] (.cons (.bin .idx (.var 2) (.bin .add (.var 4) (.dat (.int 1)))) (.cons (.var 1) .nil)) .nil) .nil)) .nil)) .nil)) .nil)) (.cons (.ret (.un .tuple (.var 2))) .nil)))
def fe_shifted : FE := fun f => match f with
  | 2 => F_plus
  | 3 => F_times
  | _ => fun _ _ _ => False
def F_shifted : List SV → KA → KX → Prop := runF fe_shifted 2 5 b_shifted
abbrev n_stretched : List Str := ["p", "f", "factor", "found", "power"]
def b_stretched : Sm := (.cons (.par [3, 4] (.cons (.lst .nil) (.cons (.dat (.tuple [(.int 1), (.int 1)])) .nil))) (.cons (.loop (.nm 2) (.var 0) (.cons (.app 3 (.call 3 [0, 1] (.cons (.var 2) (.cons (.var 4) .nil)) .nil)) (.cons (.set 4 (.call 3 [0, 1] (.cons (.var 4) (.cons (.var 1) .nil)) .nil)) .nil))) (.cons (.ret (.call 4 [0] (.cons (.var 3) .nil) .nil)) .nil)))
def fe_stretched : FE := fun f => match f with
  | 3 => F_times
  | 4 => F_trimmed
  | _ => fun _ _ _ => False
def F_stretched : List SV → KA → KX → Prop := runF fe_stretched 2 5 b_stretched
end Pg
end
section
/-! Un: fractions: the program's pairs and Rat. -/
namespace Un
open PySem Pg
def Fr (q : Rat) : PyData := .tuple [.int q.num, .int q.den]
/-- both parts below 2 ^ b -/
def Bd (b : Nat) (q : Rat) : Prop := q.num.natAbs < 2 ^ b ∧ q.den < 2 ^ b
theorem Fr.inj {q r : Rat} (h : Fr q = Fr r) : q = r := by
  unfold Fr at h
  rw [PyData.tuple.injEq, List.cons.injEq, List.cons.injEq, PyData.int.injEq, PyData.int.injEq] at h
  exact Rat.ext h.1 (by omega)
theorem Bd.mono {b c : Nat} {q : Rat} (h : Bd b q) (hc : b ≤ c) : Bd c q := ⟨Nat.lt_of_lt_of_le h.1 (Nat.pow_le_pow_right (by decide) hc), Nat.lt_of_lt_of_le h.2 (Nat.pow_le_pow_right (by decide) hc)⟩
theorem log_lt {n b : Nat} (h : n < 2 ^ b) (hb : 0 < b) : n.log2 < b := by
  by_cases h0 : n = 0
  · subst h0
    simpa using hb
  · exact (Nat.log2_lt h0).mpr h
theorem mul_ok {i j : Int} {a b : Nat} (hi : i.natAbs < 2 ^ a) (hj : j.natAbs < 2 ^ b) (h : a + b < 900000) : MulOk i j := by
  refine .inr (.inr ?_)
  have h1 : i.natAbs < 2 ^ (a + 1) := Nat.lt_of_lt_of_le hi (Nat.pow_le_pow_right (by decide) (by omega))
  have h2 : j.natAbs < 2 ^ (b + 1) := Nat.lt_of_lt_of_le hj (Nat.pow_le_pow_right (by decide) (by omega))
  have := log_lt h1 (by omega)
  have := log_lt h2 (by omega)
  omega
theorem div_ok {j : Int} {b : Nat} (h0 : j ≠ 0) (hj : j.natAbs < 2 ^ b) (h : b < 9000) : DivOk j := by
  refine ⟨h0, ?_⟩
  have h1 : j.natAbs < 2 ^ (b + 1) := Nat.lt_of_lt_of_le hj (Nat.pow_le_pow_right (by decide) (by omega))
  have := log_lt h1 (by omega)
  omega
theorem fdiv_exact {a g : Int} (h : g ∣ a) : a.fdiv g = a / g := by
  rw [Int.fdiv_eq_ediv_of_dvd h]
/-- the divisor with the sign of the bottom -/
theorem low_parts (t b : Int) (hb : b ≠ 0) (g : Int) (hg : g = if b < 0 then -(Nat.gcd t.natAbs b.natAbs : Int) else (Nat.gcd t.natAbs b.natAbs : Int)) :
    t.fdiv g = (Rat.divInt t b).num ∧ b.fdiv g = ((Rat.divInt t b).den : Int) := by
  have hp : 0 < Nat.gcd t.natAbs b.natAbs := Nat.gcd_pos_of_pos_right _ (by omega)
  have e : b.gcd t = Nat.gcd t.natAbs b.natAbs := by
    show Nat.gcd b.natAbs t.natAbs = _
    rw [Nat.gcd_comm]
  have d1 : (Nat.gcd t.natAbs b.natAbs : Int) ∣ t := Int.ofNat_dvd_left.mpr (Nat.gcd_dvd_left _ _)
  have d2 : (Nat.gcd t.natAbs b.natAbs : Int) ∣ b := Int.ofNat_dvd_left.mpr (Nat.gcd_dvd_right _ _)
  have d2' : Nat.gcd t.natAbs b.natAbs ∣ b.natAbs := Nat.gcd_dvd_right _ _
  rw [Rat.num_divInt, Rat.den_divInt, if_neg hb, e]
  generalize hG : Nat.gcd t.natAbs b.natAbs = G at *
  by_cases hn : b < 0
  · rw [if_pos hn] at hg
    subst hg
    have s : b.sign = -1 := Int.sign_eq_neg_one_of_neg hn
    rw [fdiv_exact (Int.neg_dvd.mpr d1), fdiv_exact (Int.neg_dvd.mpr d2), s, Int.ediv_neg, Int.ediv_neg]
    constructor
    · rw [Int.neg_mul, Int.one_mul, Int.neg_ediv_of_dvd d1]
    · rw [← Int.neg_ediv_of_dvd d2, show -b = (b.natAbs : Int) by omega]
      exact (Int.natCast_ediv _ _).symm
  · rw [if_neg hn] at hg
    subst hg
    have s : b.sign = 1 := Int.sign_eq_one_of_pos (by omega)
    rw [fdiv_exact d1, fdiv_exact d2, s, Int.one_mul]
    refine ⟨rfl, ?_⟩
    conv => lhs; rw [show b = (b.natAbs : Int) by omega]
    exact (Int.natCast_ediv _ _).symm
theorem low_bd {t b : Int} {m : Nat} (h1 : t.natAbs < 2 ^ m) (h2 : b.natAbs < 2 ^ m) (hb : b ≠ 0) : Bd m (Rat.divInt t b) := by
  have hp : 0 < Nat.gcd t.natAbs b.natAbs := Nat.gcd_pos_of_pos_right _ (by omega)
  have e : b.gcd t = Nat.gcd t.natAbs b.natAbs := by
    show Nat.gcd b.natAbs t.natAbs = _
    rw [Nat.gcd_comm]
  constructor
  · rw [Rat.num_divInt, e]
    refine Nat.lt_of_le_of_lt (Int.natAbs_ediv_le_natAbs _ _) ?_
    rw [Int.natAbs_mul]
    have : b.sign.natAbs = 1 := by rw [Int.natAbs_sign_of_ne_zero hb]
    rw [this, Nat.one_mul]
    exact h1
  · rw [Rat.den_divInt, if_neg hb]
    exact Nat.lt_of_le_of_lt (Nat.div_le_self _ _) h2
theorem gcd_lt {t b : Int} {m : Nat} (h2 : b.natAbs < 2 ^ m) (hb : b ≠ 0) : Nat.gcd t.natAbs b.natAbs < 2 ^ m := Nat.lt_of_le_of_lt (Nat.gcd_le_right _ (by omega)) h2
theorem rat_add (q r : Rat) : q + r = Rat.divInt (q.num * r.den + r.num * q.den) ((q.den : Int) * r.den) := by
  rw [Rat.add_def', ← Rat.divInt_ofNat]
  rfl
theorem rat_mul (q r : Rat) : q * r = Rat.divInt (q.num * r.num) ((q.den : Int) * r.den) := by
  rw [Rat.mul_def', ← Rat.divInt_ofNat]
  rfl
theorem den_ne (q : Rat) : (q.den : Int) ≠ 0 := by
  have := q.den_nz
  omega
theorem den_mul_ne (q r : Rat) : (q.den : Int) * r.den ≠ 0 := Int.mul_ne_zero (den_ne q) (den_ne r)
theorem mul_lt {i j : Int} {a b : Nat} (hi : i.natAbs < 2 ^ a) (hj : j.natAbs < 2 ^ b) : (i * j).natAbs < 2 ^ (a + b) := by
  rw [Int.natAbs_mul, Nat.pow_add]
  exact Nat.mul_lt_mul'' hi hj
theorem add_lt {i j : Int} {a b : Nat} (hi : i.natAbs < 2 ^ a) (hj : j.natAbs < 2 ^ a) : (i + j).natAbs < 2 ^ (a + 1) := by
  rw [Nat.pow_succ]
  omega
theorem Bd.add {q r : Rat} {a b : Nat} (hq : Bd a q) (hr : Bd b r) : Bd (a + b + 1) (q + r) := by
  rw [rat_add]
  refine low_bd ?_ ?_ (den_mul_ne q r)
  · refine add_lt (a := a + b) (b := 0) (mul_lt hq.1 (by simpa using hr.2)) ?_
    rw [Nat.add_comm a b]
    exact mul_lt hr.1 (by simpa using hq.2)
  · exact Nat.lt_of_lt_of_le (mul_lt (i := q.den) (j := r.den) (by simpa using hq.2) (by simpa using hr.2)) (Nat.pow_le_pow_right (by decide) (by omega))
theorem Bd.mul {q r : Rat} {a b : Nat} (hq : Bd a q) (hr : Bd b r) : Bd (a + b) (q * r) := by
  rw [rat_mul]
  exact low_bd (mul_lt hq.1 hr.1) (mul_lt (i := q.den) (j := r.den) (by simpa using hq.2) (by simpa using hr.2)) (den_mul_ne q r)
theorem Bd.dn {q : Rat} {a : Nat} (h : Bd a q) : (q.den : Int).natAbs < 2 ^ a := by simpa using h.2

/-! ### the program's fractions -/
section
variable {k : KA} {x : KX}
theorem lowest_ok {t b : Int} {m : Nat} (hb : b ≠ 0) (hm : b.natAbs < 2 ^ m) (h9 : m < 9000) (hk : k (.d (Fr (Rat.divInt t b)))) : F_lowest [.d (.int t), .d (.int b)] k x := by
  simp [F_lowest, runF, b_lowest]
  have hp : 0 < Nat.gcd t.natAbs b.natAbs := Nat.gcd_pos_of_pos_right _ (by omega)
  have hl := gcd_lt (t := t) hm hb
  have hq := low_parts t b hb _ rfl
  unfold Fr at hk
  have e : b3 .gcd t b = (Nat.gcd t.natAbs b.natAbs : Int) := rfl
  by_cases hn : b < 0
  · rw [if_pos hn] at hq ⊢
    rw [e, hq.1, hq.2]
    exact ⟨div_ok (by omega) (by simpa using hl) h9, by decide, hk⟩
  · rw [if_neg hn] at hq ⊢
    rw [e, hq.1, hq.2]
    exact ⟨div_ok (by omega) (by simpa using hl) h9, by decide, hk⟩
theorem plus_ok {q r : Rat} {a b : Nat} (hq : Bd a q) (hr : Bd b r) (h : a + b < 8990) (hk : k (.d (Fr (q + r)))) : F_plus [.d (Fr q), .d (Fr r)] k x := by
  have main : MulOk q.num r.den ∧ MulOk r.num q.den ∧ MulOk q.den r.den ∧ F_lowest [.d (.int (q.num * r.den + r.num * q.den)), .d (.int ((q.den : Int) * r.den))] (fun a => leaveW a k) x :=
    ⟨mul_ok hq.1 hr.dn (by omega), mul_ok hr.1 hq.dn (by omega), mul_ok hq.dn hr.dn (by omega), lowest_ok (m := a + b) (den_mul_ne q r) (mul_lt hq.dn hr.dn) (by omega) (by rw [← rat_add]; exact hk)⟩
  simp [F_plus, runF, b_plus, fe_plus, Fr]
  by_cases h1 : (q.den : Int) = 1
  · by_cases h2 : (r.den : Int) = 1
    · have e1 : q.den = 1 := by omega
      have e2 : r.den = 1 := by omega
      have e : q + r = Rat.divInt (q.num + r.num) 1 := by
        rw [rat_add, e1, e2]
        simp
      have en : (q + r).num = q.num + r.num := by
        rw [e, Rat.num_divInt]
        simp
      have ed : (q + r).den = 1 := by
        rw [e, Rat.den_divInt]
        simp
      unfold Fr at hk
      rw [en, ed] at hk
      rw [if_pos h1, if_pos h2]
      exact ⟨by decide, hk⟩
    · rw [if_pos h1, if_neg h2]
      exact main
  · rw [if_neg h1]
    exact main
theorem times_ok {q r : Rat} {a b : Nat} (hq : Bd a q) (hr : Bd b r) (h : a + b < 8990) (hk : k (.d (Fr (q * r)))) : F_times [.d (Fr q), .d (Fr r)] k x := by
  have main : MulOk q.num r.num ∧ MulOk q.den r.den ∧ F_lowest [.d (.int (q.num * r.num)), .d (.int ((q.den : Int) * r.den))] (fun a => leaveW a k) x :=
    ⟨mul_ok hq.1 hr.1 (by omega), mul_ok hq.dn hr.dn (by omega), lowest_ok (m := a + b) (den_mul_ne q r) (mul_lt hq.dn hr.dn) (by omega) (by rw [← rat_mul]; exact hk)⟩
  simp [F_times, runF, b_times, fe_times, Fr]
  by_cases h1 : (q.den : Int) = 1
  · by_cases h2 : (r.den : Int) = 1
    · have e1 : q.den = 1 := by omega
      have e2 : r.den = 1 := by omega
      have e : q * r = Rat.divInt (q.num * r.num) 1 := by
        rw [rat_mul, e1, e2]
        simp
      have en : (q * r).num = q.num * r.num := by
        rw [e, Rat.num_divInt]
        simp
      have ed : (q * r).den = 1 := by
        rw [e, Rat.den_divInt]
        simp
      unfold Fr at hk
      rw [en, ed] at hk
      rw [if_pos h1, if_pos h2]
      exact ⟨mul_ok hq.1 hr.1 (by omega), by decide, hk⟩
    · rw [if_pos h1, if_neg h2]
      exact main
  · rw [if_neg h1]
    exact main
end
end Un
end
section
/-! Un: polynomials: the program's tuples of fractions and lists of Rat. -/
namespace Un
open PySem Pg
/-! ### loops, comprehensions -/
theorem loop_inv {tg : Tg} {f : List SV → KF → Prop} (I : Nat → List SV → Prop) : ∀ {xs : List PyData} {i : Nat} {ρ : List SV} {k : KF}, I i ρ →
    (∀ (j : Nat) (x : PyData) (ρ : List SV), xs[j]? = some x → I (i + j) ρ → ∃ ρ1, tgt tg x ρ = some ρ1 ∧ ∀ kf : KF, (∀ ρ2, I (i + j + 1) ρ2 → kf (.nx ρ2)) → f ρ1 kf) → (∀ ρ, I (i + xs.length) ρ → k (.nx ρ)) → loopW tg f xs ρ k
  | [], i, ρ, k, h0, _, hk => hk ρ h0
  | x :: xs, i, ρ, k, h0, hs, hk => by
    obtain ⟨ρ1, h1, h2⟩ := hs 0 x ρ rfl h0
    refine ⟨ρ1, h1, h2 _ fun ρ2 h3 => ?_⟩
    show loopW tg f xs ρ2 k
    refine loop_inv I (i := i + 1) h3 (fun j y ρ hy hi => ?_) fun ρ hi => hk ρ (by rw [List.length_cons]; rw [show i + (xs.length + 1) = i + 1 + xs.length by omega]; exact hi)
    obtain ⟨ρ3, g1, g2⟩ := hs (j + 1) y ρ (by simpa using hy) (by rw [show i + (j + 1) = i + 1 + j by omega]; exact hi)
    exact ⟨ρ3, g1, fun kf h => g2 kf fun ρ2 q => h ρ2 (by rw [show i + 1 + j + 1 = i + (j + 1) + 1 by omega]; exact q)⟩
theorem cmp_map {tg : Tg} {e : List SV → KA → Prop} {ρ : List SV} : ∀ {xs ys acc : List PyData} {k : List PyData → Prop}, xs.length = ys.length →
    (∀ (i : Nat) x y, xs[i]? = some x → ys[i]? = some y → ∃ ρ1, tgt tg x ρ = some ρ1 ∧ ∀ ka : KA, ka (.d y) → e ρ1 ka) → acc.length + xs.length ≤ sizeLine → k (acc ++ ys) → cmpW tg none e ρ xs acc k
  | [], [], acc, k, _, _, _, hk => by rw [List.append_nil] at hk; exact hk
  | [], _ :: _, _, _, h, _, _, _ => nomatch h
  | _ :: _, [], _, _, h, _, _, _ => nomatch h
  | x :: xs, y :: ys, acc, k, hl, hs, hz, hk => by
    obtain ⟨ρ1, h1, h2⟩ := hs 0 x y rfl rfl
    refine ⟨ρ1, h1, h2 _ ⟨y, rfl, by rw [List.length_cons] at hz; omega, ?_⟩⟩
    refine cmp_map (by simpa using hl) (fun i a b ha hb => hs (i + 1) a b (by simpa using ha) (by simpa using hb)) ?_ (by rw [List.append_assoc]; exact hk)
    rw [List.length_append]
    rw [List.length_cons] at hz
    simp only [List.length_cons, List.length_nil]
    omega
theorem cmp_opt {tg : Tg} {t : List SV → (Bool → Prop) → Prop} {e : List SV → KA → Prop} {ρ : List SV} : ∀ {xs : List PyData} {ys : List (Option PyData)} {acc : List PyData} {k : List PyData → Prop}, xs.length = ys.length →
    (∀ (i : Nat) x (y : Option PyData), xs[i]? = some x → ys[i]? = some y → ∃ ρ1, tgt tg x ρ = some ρ1 ∧ (∀ kt : Bool → Prop, kt y.isSome → t ρ1 kt) ∧ ∀ z, y = some z → ∀ ka : KA, ka (.d z) → e ρ1 ka) →
    acc.length + xs.length ≤ sizeLine → k (acc ++ ys.filterMap id) → cmpW tg (some t) e ρ xs acc k
  | [], [], acc, k, _, _, _, hk => by rw [List.filterMap_nil, List.append_nil] at hk; exact hk
  | [], _ :: _, _, _, h, _, _, _ => nomatch h
  | _ :: _, [], _, _, h, _, _, _ => nomatch h
  | x :: xs, y :: ys, acc, k, hl, hs, hz, hk => by
    obtain ⟨ρ1, h1, h2, h3⟩ := hs 0 x y rfl rfl
    rw [List.length_cons] at hz
    refine ⟨ρ1, h1, h2 _ ?_⟩
    cases y with
    | none =>
      rw [if_neg (by decide)]
      exact cmp_opt (by simpa using hl) (fun i a b ha hb => hs (i + 1) a b (by simpa using ha) (by simpa using hb)) (by omega) (by simpa using hk)
    | some z =>
      rw [show (some z).isSome = true from rfl, if_pos rfl]
      refine h3 z rfl _ ⟨z, rfl, by omega, ?_⟩
      refine cmp_opt (by simpa using hl) (fun i a b ha hb => hs (i + 1) a b (by simpa using ha) (by simpa using hb)) ?_ (by rw [List.append_assoc]; simpa using hk)
      rw [List.length_append]
      simp only [List.length_cons, List.length_nil]
      omega
theorem whl_step {c : List SV → (Bool → Prop) → Prop} {f : List SV → KF → Prop} {n : Nat} {ρ : List SV} {k : KF} : whlW c f (n + 1) ρ k = c ρ fun t => if t = true then f ρ (fun fl => match fl with
    | .nx ρ2 => whlW c f n ρ2 k
    | .ct ρ2 => whlW c f n ρ2 k
    | .bk ρ2 => k (.nx ρ2)
    | .rt a => k (.rt a)) else k (.nx ρ) := rfl

/-! ### fractions among data -/
theorem Fr0 : Fr 0 = .tuple [.int 0, .int 1] := rfl
theorem Fr1 : Fr 1 = .tuple [.int 1, .int 1] := rfl
theorem shp_Fr (q : Rat) : shp (Fr q) := by simp [Fr, shp, SeqAt.shaped, PyData.canLay0, PyData.canLayAll0, PyData.depth, PyData.depthAll]
theorem eqv_Fr (q r : Rat) : PyData.eqv (Fr q) (Fr r) = decide (q = r) := by
  have e : PyData.eqv (Fr q) (Fr r) = (q.num == r.num && ((q.den : Int) == (r.den : Int) && true)) := by
    unfold Fr
    simp [PyData.eqv, PyData.eqvAll]
  rw [e]
  by_cases h : q = r
  · subst h
    simp
  · simp only [h, decide_false, Bool.and_true]
    by_cases hn : q.num = r.num
    · have hd : q.den ≠ r.den := fun hd => h (Rat.ext hn hd)
      have : ¬ ((q.den : Int) = r.den) := by omega
      simp [this]
    · simp [hn]
def PL (l : List Rat) : List PyData := l.map Fr
def PT (l : List Rat) : PyData := .tuple (PL l)
def BdL (b : Nat) (l : List Rat) : Prop := ∀ q ∈ l, Bd b q
theorem PL_len (l : List Rat) : (PL l).length = l.length := List.length_map ..
theorem PL_get {l : List Rat} {i : Nat} {x : PyData} (h : (PL l)[i]? = some x) : ∃ q, l[i]? = some q ∧ x = Fr q := by
  unfold PL at h
  rw [List.getElem?_map] at h
  cases e : l[i]? with
  | none => rw [e] at h; cases h
  | some q => rw [e] at h; exact ⟨q, rfl, (Option.some.inj h).symm⟩
theorem PL_at {l : List Rat} {i : Nat} {q : Rat} (h : l[i]? = some q) : (PL l)[i]? = some (Fr q) := by
  unfold PL
  rw [List.getElem?_map, h] <;> rfl
theorem at_nat {α : Type} {xs : List α} {i : Nat} {v : α} (h : xs[i]? = some v) : atIx xs (i : Int) = some v := by
  have hi : i < xs.length := (List.getElem?_eq_some_iff.mp h).1
  have h2 : (i : Int) < xs.length := by omega
  simp [atIx, L2.atI, L2.ixN, h2, h]
section
variable {k : KA} {x : KX}
theorem idx_l {xs : List PyData} {i : Nat} {v : PyData} (h : xs[i]? = some v) (hk : k (.d v)) : w2 .idx (.d (.list xs)) (.d (.int i)) k := ⟨_, _, rfl, rfl, v, at_nat h, hk⟩
theorem idx_t {xs : List PyData} {i : Nat} {v : PyData} (h : xs[i]? = some v) (hk : k (.d v)) : w2 .idx (.d (.tuple xs)) (.d (.int i)) k := ⟨_, _, rfl, rfl, v, at_nat h, hk⟩
theorem idx_b {xs : List PyData} {i : Nat} {v : PyData} (h : xs[i]? = some v) (hk : k (.d v)) : w2 .idx (.bor xs) (.d (.int i)) k := ⟨_, _, rfl, rfl, v, at_nat h, hk⟩
@[simp] theorem len_l {xs : List PyData} : w1 .len (.d (.list xs)) k ↔ k (.d (.int xs.length)) := ⟨fun ⟨_, h1, h⟩ => by cases h1; exact h, fun h => ⟨_, rfl, h⟩⟩
@[simp] theorem len_t {xs : List PyData} : w1 .len (.d (.tuple xs)) k ↔ k (.d (.int xs.length)) := ⟨fun ⟨_, h1, h⟩ => by cases h1; exact h, fun h => ⟨_, rfl, h⟩⟩
@[simp] theorem len_b {xs : List PyData} : w1 .len (.bor xs) k ↔ k (.d (.int xs.length)) := ⟨fun ⟨_, h1, h⟩ => by cases h1; exact h, fun h => ⟨_, rfl, h⟩⟩
@[simp] theorem tup_n {xs : List PyData} : w1 .tuple (.new xs) k ↔ k (.d (.tuple xs)) := ⟨fun ⟨_, h1, h⟩ => by cases h1; exact h, fun h => ⟨_, rfl, h⟩⟩
@[simp] theorem tup_b {xs : List PyData} : w1 .tuple (.bor xs) k ↔ k (.d (.tuple xs)) := ⟨fun ⟨_, h1, h⟩ => by cases h1; exact h, fun h => ⟨_, rfl, h⟩⟩
@[simp] theorem tup_d {xs : List PyData} : w1 .tuple (.d (.list xs)) k ↔ k (.d (.tuple xs)) := ⟨fun ⟨_, h1, h⟩ => by cases h1; exact h, fun h => ⟨_, rfl, h⟩⟩
@[simp] theorem lst_t {xs : List PyData} : w1 .list (.d (.tuple xs)) k ↔ k (.new xs) := ⟨fun ⟨_, h1, h⟩ => by cases h1; exact h, fun h => ⟨_, rfl, h⟩⟩
@[simp] theorem slc_l {xs : List PyData} {a b} : slcW (.d (.list xs)) a b k ↔ k (.new (cut xs a b)) := ⟨fun ⟨_, h1, h⟩ => by cases h1; exact h, fun h => ⟨_, rfl, h⟩⟩
@[simp] theorem slc_t {xs : List PyData} {a b} : slcW (.d (.tuple xs)) a b k ↔ k (.d (.tuple (cut xs a b))) := ⟨fun ⟨_, h1, h⟩ => by cases h1; exact h, fun h => ⟨_, rfl, h⟩⟩
@[simp] theorem rev_t {xs : List PyData} : revW (.d (.tuple xs)) k ↔ k (.d (.tuple xs.reverse)) := ⟨fun ⟨_, h1, h⟩ => by cases h1; exact h, fun h => ⟨_, rfl, h⟩⟩
theorem cut_to {α : Type} (xs : List α) (n : Nat) (h : n ≤ xs.length) : cut xs none (some (n : Int)) = xs.take n := by
  unfold cut HT.sIx
  have h1 : ¬ (n : Int) < 0 := by omega
  simp [h1]
theorem cut_from {α : Type} (xs : List α) (n : Nat) (h : n ≤ xs.length) : cut xs (some (n : Int)) none = xs.drop n := by
  unfold cut HT.sIx
  have h1 : ¬ (n : Int) < 0 := by omega
  have h2 : min (n : Int) xs.length = n := by omega
  simp [h1, h2]
  rw [Nat.min_eq_left h, List.take_of_length_le (by simp)]

/-! ### trimmed -/
def trimR : List Rat → List Rat
  | [] => []
  | a :: l => if trimR l = [] ∧ a = 0 then [] else a :: trimR l
theorem trimR_snoc0 : ∀ l : List Rat, trimR (l ++ [0]) = trimR l
  | [] => by simp [trimR]
  | a :: l => by
    rw [List.cons_append, trimR, trimR, trimR_snoc0 l]
theorem trimR_snoc {a : Rat} (ha : a ≠ 0) : ∀ l : List Rat, trimR (l ++ [a]) = l ++ [a]
  | [] => by simp [trimR, ha]
  | b :: l => by
    rw [List.cons_append, trimR, trimR_snoc ha l]
    simp
theorem trim_whl {l : List Rat} (hl : l.length ≤ 1000) {kf : KF} (hk : ∀ s : Nat, s ≤ l.length → l.take s = trimR l → kf (.nx [.d (.list (PL l)), .d (.int s)])) : ∀ s : Nat, s ≤ l.length → trimR (l.take s) = trimR l →
    whlW (ev fe_trimmed x (.band (.bin .gt (.var 1) (.dat (.int 0))) (.bin .eq (.bin .idx (.var 0) (.bin .sub (.var 1) (.dat (.int 1)))) (.dat (.tuple [(.int 0), (.int 1)]))))).t (ex fe_trimmed x (.cons (.set 1 (.bin .sub (.var 1) (.dat (.int 1)))) .nil)) (s + 1) [.d (.list (PL l)), .d (.int s)] kf
  | 0, hs, ht => by
    rw [whl_step]
    simp
    exact hk 0 hs (by simpa [trimR] using ht)
  | s + 1, hs, ht => by
    rw [whl_step]
    have h1 : (0 : Int) < (s : Int) + 1 := by omega
    have e1 : ((s : Int) + 1 - 1) = (s : Int) := by omega
    have hg : l[s]? = some l[s] := List.getElem?_eq_getElem (by omega)
    have et : l.take (s + 1) = l.take s ++ [l[s]] := by rw [List.take_succ, hg] <;> rfl
    simp [h1, e1]
    refine idx_l (PL_at hg) ?_
    refine w2_intro (x := Fr l[s]) (y := Fr 0) ⟨shp_Fr _, shp_Fr _, ?_⟩ rfl rfl
    rw [eqv_Fr]
    simp
    by_cases hz : l[s] = 0
    · rw [if_pos hz]
      refine trim_whl hl hk s (by omega) ?_
      rw [← ht, et, hz, trimR_snoc0]
    · rw [if_neg hz]
      refine hk (s + 1) hs ?_
      rw [← ht, et, trimR_snoc hz]
theorem trimmed_ok {l : List Rat} (hl : l.length ≤ 1000) (hk : k (.d (PT (trimR l)))) : F_trimmed [.d (.list (PL l))] k x := by
  simp [F_trimmed, runF, b_trimmed]
  refine ⟨l.length + 1, ?_⟩
  rw [PL_len]
  refine trim_whl hl (fun s hs hs2 => ?_) l.length (Nat.le_refl _) (by rw [List.take_length])
  simp
  rw [cut_to _ _ (by rw [PL_len]; exact hs)]
  unfold PT at hk
  rw [← hs2] at hk
  unfold PL at hk ⊢
  rwa [List.map_take] at hk
end
end Un
end
section
/-! Un: the program's polynomials, def by def. -/
namespace Un
open PySem Pg
theorem bd0 : Bd 1 0 := ⟨by decide, by decide⟩
theorem bd1 : Bd 1 1 := ⟨by decide, by decide⟩
theorem BdL.get {b : Nat} {l : List Rat} (h : BdL b l) {i : Nat} {q : Rat} (e : l[i]? = some q) : Bd b q := h q (List.mem_of_getElem? e)
theorem BdL.mono {b c : Nat} {l : List Rat} (h : BdL b l) (hc : b ≤ c) : BdL c l := fun q hq => (h q hq).mono hc
theorem BdL.tail {b : Nat} {a : Rat} {l : List Rat} (h : BdL b (a :: l)) : BdL b l := fun q hq => h q (List.mem_cons_of_mem _ hq)
theorem BdL.head {b : Nat} {a : Rat} {l : List Rat} (h : BdL b (a :: l)) : Bd b a := h a (List.mem_cons_self ..)
theorem BdL.sub {b : Nat} {l m : List Rat} (h : BdL b l) (hs : ∀ q ∈ m, q ∈ l) : BdL b m := fun q hq => h q (hs q hq)
def evR : List Rat → Rat → Rat
  | [], _ => 0
  | a :: l, f => evR l f * f + a
theorem evR_bd {a b : Nat} {f : Rat} (hf : Bd b f) : ∀ {l : List Rat}, BdL a l → Bd (l.length * (a + b + 1) + 1) (evR l f)
  | [], _ => bd0.mono (by omega)
  | q :: l, h => by
    have h1 := ((evR_bd hf h.tail).mul hf).add h.head
    refine h1.mono ?_
    rw [List.length_cons, Nat.succ_mul]
    omega
section
variable {k : KA} {x : KX}
theorem at_ok {l : List Rat} {f : Rat} {a b : Nat} (hl : BdL a l) (hf : Bd b f) (hz : (l.length + 1) * (a + b + 1) < 8000) (hk : k (.d (Fr (evR l f)))) : F_at [.d (PT l), .d (Fr f)] k x := by
  simp [F_at, runF, b_at, PT]
  let I : Nat → List SV → Prop := fun i ρ => ∃ u, ρ = [.d (PT l), .d (Fr f), .d (Fr (evR (l.drop (l.length - i)) f)), u]
  refine loop_inv I (i := 0) ⟨.un, by simp [evR, Fr0, PT]⟩ (fun j y ρ hy hI => ?_) fun ρ hI => ?_
  · obtain ⟨u, rfl⟩ := hI
    have hj : j < l.length := by
      have := (List.getElem?_eq_some_iff.mp hy).1
      simpa [PL] using this
    rw [List.getElem?_reverse (by rw [PL_len]; exact hj), PL_len] at hy
    obtain ⟨q, hq, rfl⟩ := PL_get hy
    refine ⟨_, rfl, fun kf h => ?_⟩
    have hd : l.drop (l.length - (0 + j + 1)) = q :: l.drop (l.length - (0 + j)) := by
      have e : l.length - (0 + j + 1) = l.length - 1 - j := by omega
      have e2 : l.length - (0 + j) = (l.length - 1 - j) + 1 := by omega
      rw [e, e2]
      exact (List.drop_eq_getElem?_toList_append).trans (by rw [hq] <;> rfl)
    have hb : BdL a (l.drop (l.length - (0 + j))) := hl.sub fun _ => List.mem_of_mem_drop
    have h1 := evR_bd hf hb
    have hn : (l.drop (l.length - (0 + j))).length + 1 ≤ l.length := by rw [List.length_drop]; omega
    have hm : (l.drop (l.length - (0 + j))).length * (a + b + 1) + (a + b + 1) ≤ l.length * (a + b + 1) := by
      rw [← Nat.succ_mul]
      exact Nat.mul_le_mul_right _ hn
    have hz' : l.length * (a + b + 1) + (a + b + 1) < 8000 := by rw [← Nat.succ_mul]; exact hz
    simp only [Nat.zero_add] at h h1 hn hm hd hb
    simp [fe_at]
    refine times_ok h1 hf (by omega) ?_
    simp
    have ha := hl.get hq
    refine plus_ok (h1.mul hf) ha (by omega) ?_
    simp
    refine h _ ⟨.d (Fr q), ?_⟩
    rw [hd, evR]
  · obtain ⟨u, rfl⟩ := hI
    rw [List.length_reverse, PL_len, Nat.zero_add, Nat.sub_self, List.drop_zero]
    simpa using hk
def scR (l : List Rat) (f : Rat) : List Rat := trimR (l.map (· * f))
theorem PL_map {l : List Rat} {g : Rat → Rat} : PL (l.map g) = l.map fun q => Fr (g q) := by simp [PL, Function.comp_def]
theorem scaled_ok {l : List Rat} {f : Rat} {a b : Nat} (hl : BdL a l) (hf : Bd b f) (hz : a + b < 8000) (hn : l.length ≤ 1000) (hk : k (.d (PT (scR l f)))) : F_scaled [.d (PT l), .d (Fr f)] k x := by
  simp [F_scaled, runF, b_scaled, PT, isNo, wipeS]
  refine cmp_map (ys := PL (l.map (· * f))) (by simp [PL]) (fun i y z hy hz' => ?_) (by rw [PL_len]; simpa using sz _ hn) ?_
  · obtain ⟨q, hq, rfl⟩ := PL_get hy
    obtain ⟨r, hr, rfl⟩ := PL_get hz'
    rw [List.getElem?_map, hq] at hr
    cases hr
    refine ⟨_, rfl, fun ka h => ?_⟩
    simp [fe_scaled]
    exact times_ok (hl.get hq) hf (by omega) h
  · simp [fe_scaled]
    exact trimmed_ok (by simpa using hn) (by simpa [scR] using hk)
theorem enuL_PL : ∀ (l : List Rat) (n i : Nat) (y : PyData), (enuL n (PL l))[i]? = some y → ∃ q, l[i]? = some q ∧ y = .tuple [.int ((n + i : Nat) : Int), Fr q]
  | [], n, i, y, h => by simp [PL, enuL] at h
  | q :: l, n, 0, y, h => by
    simp [PL, enuL] at h
    exact ⟨q, rfl, by simp [← h]⟩
  | q :: l, n, i + 1, y, h => by
    have h' : (enuL (n + 1) (PL l))[i]? = some y := by simpa [PL, enuL] using h
    obtain ⟨r, h1, h2⟩ := enuL_PL l (n + 1) i y h'
    exact ⟨r, by simpa using h1, by rw [h2, show n + 1 + i = n + (i + 1) by omega]⟩
theorem enuL_length : ∀ (xs : List PyData) (n : Nat), (enuL n xs).length = xs.length
  | [], _ => rfl
  | x :: xs, n => by rw [enuL, List.length_cons, List.length_cons, enuL_length xs]
/-- a whole number as a fraction -/
theorem Fr_nat (n : Nat) : Fr (n : Rat) = .tuple [.int n, .int 1] := by
  unfold Fr
  simp
theorem bd_nat {n b : Nat} (h : n < 2 ^ b) (hb : 0 < b) : Bd b (n : Rat) := ⟨by simpa using h, by
  simp
  omega⟩
/-- k * a0, (k + 1) * a1, .. -/
def dz : Nat → List Rat → List Rat
  | _, [] => []
  | n, a :: l => a * (n : Rat) :: dz (n + 1) l
def slR (l : List Rat) : List Rat := dz 1 l.tail
theorem dz_len : ∀ (l : List Rat) (n : Nat), (dz n l).length = l.length
  | [], _ => rfl
  | _ :: l, n => by rw [dz, List.length_cons, List.length_cons, dz_len l]
theorem dz_get : ∀ (l : List Rat) (n i : Nat) (q : Rat), l[i]? = some q → (dz n l)[i]? = some (q * ((n + i : Nat) : Rat))
  | [], _, _, _, h => by simp at h
  | a :: l, n, 0, q, h => by
    simp at h
    subst h
    simp [dz]
  | a :: l, n, i + 1, q, h => by
    have := dz_get l (n + 1) i q (by simpa using h)
    rw [dz, List.getElem?_cons_succ, this, show n + 1 + i = n + (i + 1) by omega]
theorem slope_ok {l : List Rat} {a : Nat} (hl : BdL a l) (hz : a < 7000) (hn : l.length ≤ 1000) (hk : k (.d (PT (slR l)))) : F_slope_of [.d (PT l)] k x := by
  simp [F_slope_of, runF, b_slope_of, PT, isNo, wipeS]
  refine cmp_opt (ys := (match l with | [] => [] | _ :: t => none :: (PL (dz 1 t)).map some)) ?_ (fun i y z hy hz' => ?_) (by rw [enuL_length, PL_len]; simpa using sz _ hn) ?_
  · rw [enuL_length, PL_len]
    cases l with
    | nil => rfl
    | cons q t => simp [PL, dz_len]
  · obtain ⟨q, hq, rfl⟩ := enuL_PL l 0 i y hy
    refine ⟨[.d (.tuple (PL l)), .d (.int i), .d (Fr q)], by simp [tgt, setD], fun kt h => ?_, fun z e ka h => ?_⟩
    · simp
      cases l with
      | nil => simp at hq
      | cons q0 t =>
        cases i with
        | zero =>
          simp at hz'
          subst hz'
          simpa using h
        | succ i =>
          have hz2 : ((PL (dz 1 t)).map some)[i]? = some z := by simpa using hz'
          have : z.isSome = true := by
            rw [List.getElem?_map] at hz2
            cases e : (PL (dz 1 t))[i]? with
            | none => rw [e] at hz2; cases hz2
            | some w => rw [e] at hz2; cases hz2; rfl
          rw [this] at h
          simpa using h
    · subst e
      simp [fe_slope_of]
      cases l with
      | nil => simp at hq
      | cons q0 t =>
        cases i with
        | zero => simp at hz'
        | succ i =>
          have hz2 : ((PL (dz 1 t)).map some)[i]? = some (some z) := by simpa using hz'
          have hq2 : t[i]? = some q := by simpa using hq
          have hi : i < t.length := (List.getElem?_eq_some_iff.mp hq2).1
          have e1 := PL_at (dz_get t 1 i q hq2)
          rw [List.getElem?_map, e1] at hz2
          cases hz2
          rw [show (1 + i : Nat) = i + 1 by omega] at h
          rw [List.length_cons] at hn
          have ha := hl.get hq
          have e2 := Fr_nat (i + 1)
          refine ⟨by decide, ?_⟩
          have g := times_ok (k := ka) (x := noX) ha (bd_nat (n := i + 1) (b := 10) (by omega) (by decide)) (by omega) h
          rw [e2] at g
          simpa using g
  · simp
    unfold PT slR at hk
    cases l with
    | nil => simpa [PL, dz] using hk
    | cons q t => simpa using hk
end
end Un
end
section
/-! Un: more of the program's polynomials. -/
namespace Un
open PySem Pg
theorem PL_lay : ∀ l : List Rat, PyData.canLayAll0 (PL l) = true ∧ PyData.depthAll (PL l) ≤ 1
  | [] => ⟨rfl, by simp [PL, PyData.depthAll]⟩
  | q :: l => by
    obtain ⟨h1, h2⟩ := PL_lay l
    have e : PL (q :: l) = Fr q :: PL l := rfl
    rw [e]
    constructor
    · simp [PyData.canLayAll0, h1, Fr, PyData.canLay0]
    · have d1 : (Fr q).depth = 1 := by simp [Fr, PyData.depth, PyData.depthAll]
      simp only [PyData.depthAll, d1]
      omega
theorem shp_PT (l : List Rat) : shp (PT l) := by
  obtain ⟨h1, h2⟩ := PL_lay l
  simp [shp, SeqAt.shaped, PT, PyData.canLay0, PyData.depth, h1]
  omega
theorem eqvAll_PL : ∀ l m : List Rat, PyData.eqvAll (PL l) (PL m) = decide (l = m)
  | [], [] => by simp [PL, PyData.eqvAll]
  | [], _ :: _ => by simp [PL, PyData.eqvAll]
  | _ :: _, [] => by simp [PL, PyData.eqvAll]
  | a :: l, b :: m => by
    have e : PyData.eqvAll (PL (a :: l)) (PL (b :: m)) = (PyData.eqv (Fr a) (Fr b) && PyData.eqvAll (PL l) (PL m)) := by simp [PL, PyData.eqvAll]
    rw [e, eqv_Fr, eqvAll_PL l m]
    by_cases h1 : a = b <;> by_cases h2 : l = m <;> simp [h1, h2]
theorem eqv_PT (l m : List Rat) : PyData.eqv (PT l) (PT m) = decide (l = m) := by
  have e : PyData.eqv (PT l) (PT m) = PyData.eqvAll (PL l) (PL m) := by simp [PT, PyData.eqv]
  rw [e, eqvAll_PL]
theorem bare_PL : ∀ l : List Rat, bareAll (PL l) = true
  | [] => rfl
  | q :: l => by
    have e : PL (q :: l) = Fr q :: PL l := rfl
    rw [e, bareAll, bare_PL l]
    simp [Fr, bare, bareAll]
theorem bare_PT (l : List Rat) : bare (PT l) = true := by simp [PT, bare, bare_PL]
/-- 1 / (n + 1) -/
def inv1 (n : Nat) : Rat := Rat.divInt 1 ((n : Int) + 1)
theorem inv1_num (n : Nat) : (inv1 n).num = 1 := by
  unfold inv1
  rw [Rat.num_divInt]
  have s : ((n : Int) + 1).sign = 1 := Int.sign_eq_one_of_pos (by omega)
  rw [s, Int.gcd_one_right]
  rfl
theorem inv1_den (n : Nat) : (inv1 n).den = n + 1 := by
  unfold inv1
  rw [Rat.den_divInt, if_neg (by omega), Int.gcd_one_right]
  omega
theorem Fr_inv (n : Nat) : Fr (inv1 n) = .tuple [.int 1, .int ((n : Int) + 1)] := by
  unfold Fr
  rw [inv1_num, inv1_den]
  simp
theorem bd_inv {n b : Nat} (h : n + 1 < 2 ^ b) : Bd b (inv1 n) := ⟨by rw [inv1_num]; show 1 < _; omega, by rw [inv1_den]; exact h⟩
def hz : Nat → List Rat → List Rat
  | _, [] => []
  | n, a :: l => a * inv1 n :: hz (n + 1) l
def hpR : List Rat → List Rat
  | [] => []
  | a :: l => 0 :: hz 0 (a :: l)
theorem hz_len : ∀ (l : List Rat) (n : Nat), (hz n l).length = l.length
  | [], _ => rfl
  | _ :: l, n => by rw [hz, List.length_cons, List.length_cons, hz_len l]
theorem hz_get : ∀ (l : List Rat) (n i : Nat) (q : Rat), l[i]? = some q → (hz n l)[i]? = some (q * inv1 (n + i))
  | [], _, _, _, h => by simp at h
  | a :: l, n, 0, q, h => by
    simp at h
    subst h
    simp [hz]
  | a :: l, n, i + 1, q, h => by
    have := hz_get l (n + 1) i q (by simpa using h)
    rw [hz, List.getElem?_cons_succ, this, show n + 1 + i = n + (i + 1) by omega]
def addL : List Rat → List Rat → List Rat
  | [], q => q
  | a :: p, [] => a :: p
  | a :: p, b :: q => (a + b) :: addL p q
def addR (p q : List Rat) : List Rat := trimR (addL p q)
theorem addL_comm : ∀ p q : List Rat, addL p q = addL q p
  | [], [] => rfl
  | [], _ :: _ => rfl
  | _ :: _, [] => rfl
  | a :: p, b :: q => by rw [addL, addL, addL_comm p q, Rat.add_comm]
theorem addL_zip : ∀ p q : List Rat, p.length ≤ q.length → List.zipWith (· + ·) p q ++ q.drop p.length = addL p q
  | [], q, _ => by simp [addL]
  | a :: p, [], h => by simp at h
  | a :: p, b :: q, h => by
    have := addL_zip p q (by simpa using h)
    simp [addL, this]
theorem zipL_PL : ∀ (p q : List Rat) (i : Nat) (y : PyData), (zipL (PL p) (PL q))[i]? = some y → ∃ a b, p[i]? = some a ∧ q[i]? = some b ∧ y = .tuple [Fr a, Fr b]
  | [], q, i, y, h => by simp [PL, zipL] at h
  | a :: p, [], i, y, h => by simp [PL, zipL] at h
  | a :: p, b :: q, 0, y, h => by
    simp [PL, zipL] at h
    exact ⟨a, b, rfl, rfl, h.symm⟩
  | a :: p, b :: q, i + 1, y, h => by
    have h' : (zipL (PL p) (PL q))[i]? = some y := by simpa [PL, zipL] using h
    obtain ⟨c, d, h1, h2, h3⟩ := zipL_PL p q i y h'
    exact ⟨c, d, by simpa using h1, by simpa using h2, h3⟩
theorem zipL_length : ∀ xs ys : List PyData, (zipL xs ys).length = min xs.length ys.length
  | [], ys => by simp [zipL]
  | x :: xs, [] => by simp [zipL]
  | x :: xs, y :: ys => by rw [zipL, List.length_cons, zipL_length xs ys, List.length_cons, List.length_cons]; omega
section
variable {k : KA} {x : KX}
theorem heap_ok {l : List Rat} {a : Nat} (hl : BdL a l) (hz' : a < 7000) (hn : l.length ≤ 900) (hk : k (.d (PT (hpR l)))) : F_heap_of [.d (PT l)] k x := by
  simp [F_heap_of, runF, b_heap_of]
  refine w2_intro (x := PT l) (y := PT []) ⟨shp_PT _, shp_PT _, ?_⟩ rfl rfl
  rw [eqv_PT]
  simp
  cases l with
  | nil =>
    rw [if_pos rfl]
    simpa [hpR, PT, PL] using hk
  | cons q t =>
    rw [if_neg (by simp)]
    simp [PT, isNo, wipeS]
    refine ⟨by decide, ?_⟩
    refine cmp_map (ys := PL (hz 0 (q :: t))) (by rw [enuL_length, PL_len, PL_len, hz_len]) (fun i y z hy hz'' => ?_) (by rw [enuL_length, PL_len]; simpa using sz _ (by simpa using (show t.length + 1 ≤ 1000 by simp at hn; omega))) ?_
    · obtain ⟨r, hr, rfl⟩ := enuL_PL _ 0 i y hy
      have e1 := PL_at (hz_get _ 0 i r hr)
      rw [e1] at hz''
      cases hz''
      refine ⟨[.d (.tuple (PL (q :: t))), .d (.int i), .d (Fr r)], by simp [tgt, setD], fun ka h => ?_⟩
      simp [fe_heap_of]
      have hi : i < (q :: t).length := (List.getElem?_eq_some_iff.mp hr).1
      have ha := hl.get hr
      have e2 := Fr_inv i
      refine ⟨by decide, ?_⟩
      rw [Nat.zero_add] at h
      have g := times_ok (k := ka) (x := noX) ha (bd_inv (n := i) (b := 10) (by show i + 1 < 1024; omega)) (by omega) h
      rw [e2] at g
      exact g
    · simp
      refine ⟨_, _, rfl, rfl, ?_, ?_⟩
      · rw [PL_len, hz_len]
        exact sz _ (by simp at hn ⊢; omega)
      · simpa [hpR, PT, PL, Fr0] using hk
@[simp] theorem seq2_tt {xs ys : List PyData} {k : List PyData → List PyData → Prop} : seq2W (.d (.tuple xs)) (.d (.tuple ys)) k ↔ k xs ys := ⟨fun ⟨_, _, h1, h2, h⟩ => by cases h1; cases h2; exact h, fun h => ⟨_, _, rfl, rfl, h⟩⟩
theorem cat_ln {xs ys : List PyData} (h : xs.length + ys.length ≤ 1000) (hk : k (.new (xs ++ ys))) : w2 .add (.d (.list xs)) (.new ys) k := ⟨_, _, rfl, rfl, sz _ h, hk⟩
theorem added_ok {p q : List Rat} {a b : Nat} (hp : BdL a p) (hq : BdL b q) (hz : a + b < 8000) (hn : p.length ≤ 400 ∧ q.length ≤ 400) (hk : k (.d (PT (addR p q)))) : F_added [.d (PT p), .d (PT q)] k x := by
  have core : ∀ (s t : List Rat) (c d : Nat), BdL c s → BdL d t → c + d < 8000 → s.length ≤ t.length → t.length ≤ 400 → addR s t = addR p q →
      cmpW (.tp [5, 6]) none (ev fe_added (fun _ _ => False) (.call 2 [0, 1] (.cons (.var 5) (.cons (.var 6) .nil)) .nil)).v [.d (.tuple (PL p)), .d (.tuple (PL q)), .un, .d (.tuple (PL s)), .d (.tuple (PL t)), .un, .un] (zipL (PL s) (PL t)) [] (fun ys =>
        w2 .add (.d (.list ys)) (.new (cut (PL t) (some (s.length : Int)) none)) fun p => callW fe_added x 4 p.isBor [argOf p] fun a => leaveW a k) := fun s t c d hs ht hcd hst htn hst2 => by
    refine cmp_map (ys := PL (List.zipWith (· + ·) s t)) (by rw [zipL_length, PL_len, PL_len, PL_len, List.length_zipWith]) (fun i y z hy hz' => ?_) (by rw [zipL_length, PL_len, PL_len]; simpa using sz _ (by omega)) ?_
    · obtain ⟨a1, b1, h1, h2, rfl⟩ := zipL_PL s t i y hy
      have e1 : (PL (List.zipWith (· + ·) s t))[i]? = some (Fr (a1 + b1)) := PL_at (by rw [List.getElem?_zipWith, h1, h2])
      rw [e1] at hz'
      cases hz'
      refine ⟨[.d (.tuple (PL p)), .d (.tuple (PL q)), .un, .d (.tuple (PL s)), .d (.tuple (PL t)), .d (Fr a1), .d (Fr b1)], by simp [tgt, setD], fun ka h => ?_⟩
      simp [fe_added]
      exact plus_ok (hs.get h1) (ht.get h2) (by omega) h
    · rw [List.nil_append, cut_from _ _ (by rw [PL_len]; exact hst)]
      have e3 : PL (List.zipWith (· + ·) s t) ++ (PL t).drop s.length = PL (addL s t) := by
        rw [← addL_zip s t hst]
        simp [PL]
      have hl3 := congrArg List.length e3
      rw [List.length_append, PL_len] at hl3
      have hzl : (List.zipWith (· + ·) s t).length = s.length := by rw [List.length_zipWith]; omega
      have hal : (addL s t).length = t.length := by
        rw [← addL_zip s t hst, List.length_append, hzl, List.length_drop]
        omega
      refine cat_ln ?_ ?_
      · rw [PL_len, List.length_drop, PL_len, hzl]
        omega
      · rw [e3]
        simp [fe_added]
        exact trimmed_ok (by omega) (by
          unfold addR at hst2
          rw [hst2]
          exact hk)
  simp [F_added, runF, b_added, PT, PL_len, isNo, wipeS, setD]
  by_cases h : p.length < q.length
  · have h' : (p.length : Int) < q.length := by omega
    simp [h, setD]
    refine ⟨by decide, ?_⟩
    exact core p q a b hp hq hz (by omega) hn.2 rfl
  · simp [h, setD]
    refine ⟨by decide, ?_⟩
    exact core q p b a hq hp (by omega) (by omega) hn.1 (by unfold addR; rw [addL_comm])
end
end Un
end
section
/-! Un: stretched, multiplied, shifted. -/
namespace Un
open PySem Pg
def pwR (f : Rat) : Nat → Rat
  | 0 => 1
  | n + 1 => pwR f n * f
theorem pw_bd {f : Rat} {b : Nat} (h : Bd b f) : ∀ n, Bd (n * b + 1) (pwR f n)
  | 0 => bd1.mono (by omega)
  | n + 1 => ((pw_bd h n).mul h).mono (by rw [Nat.succ_mul]; omega)
def stL (f : Rat) : Nat → List Rat → List Rat
  | _, [] => []
  | n, a :: l => a * pwR f n :: stL f (n + 1) l
theorem stL_snoc (f a : Rat) : ∀ (l : List Rat) (n : Nat), stL f n (l ++ [a]) = stL f n l ++ [a * pwR f (n + l.length)]
  | [], n => by simp [stL]
  | c :: l, n => by
    rw [List.cons_append, stL, stL, stL_snoc f a l (n + 1), List.cons_append, List.length_cons, show n + 1 + l.length = n + (l.length + 1) by omega]
def strR (l : List Rat) (f : Rat) : List Rat := trimR (stL f 0 l)
theorem stL_len (f : Rat) : ∀ (l : List Rat) (n : Nat), (stL f n l).length = l.length
  | [], _ => rfl
  | _ :: l, n => by rw [stL, List.length_cons, List.length_cons, stL_len f l]
theorem PL_snoc (l : List Rat) (a : Rat) : PL l ++ [Fr a] = PL (l ++ [a]) := by simp [PL]
section
variable {k : KA} {x : KX}
theorem stretched_ok {l : List Rat} {f : Rat} {a b : Nat} (hl : BdL a l) (hf : Bd b f) (hz : a + (l.length + 1) * b + 2 < 8000) (hn : l.length ≤ 1000) (hk : k (.d (PT (strR l f)))) : F_stretched [.d (PT l), .d (Fr f)] k x := by
  simp [F_stretched, runF, b_stretched, PT]
  let I : Nat → List SV → Prop := fun i ρ => ∃ u, ρ = [.d (PT l), .d (Fr f), u, .own (PL (stL f 0 (l.take i))), .d (Fr (pwR f i))]
  refine loop_inv I (i := 0) ⟨.un, by simp [PT, stL, PL, pwR, Fr1]⟩ (fun j y ρ hy hI => ?_) fun ρ hI => ?_
  · obtain ⟨u, rfl⟩ := hI
    simp only [Nat.zero_add]
    obtain ⟨q, hq, rfl⟩ := PL_get hy
    have hj : j < l.length := (List.getElem?_eq_some_iff.mp hq).1
    have ha := hl.get hq
    have hp := pw_bd hf j
    have hm : j * b + b ≤ (l.length + 1) * b := by
      rw [← Nat.succ_mul]
      exact Nat.mul_le_mul_right _ (by omega)
    refine ⟨_, rfl, fun kf h => ?_⟩
    simp [fe_stretched]
    refine times_ok ha hp (by omega) ?_
    simp
    refine ⟨by rw [PL_len, stL_len, List.length_take]; exact Nat.lt_of_lt_of_le (show _ < 1001 by omega) (by decide), ?_⟩
    refine times_ok hp hf (by omega) ?_
    simp
    refine h _ ⟨.d (Fr q), ?_⟩
    have ht : l.take (j + 1) = l.take j ++ [q] := by rw [List.take_succ, hq] <;> rfl
    rw [ht, stL_snoc, PL_snoc, List.length_take, Nat.zero_add, Nat.min_eq_left (by omega)]
    rfl
  · obtain ⟨u, rfl⟩ := hI
    rw [PL_len, Nat.zero_add, List.take_length]
    simp [fe_stretched]
    exact trimmed_ok (by rw [stL_len]; exact hn) ⟨_, rfl, bare_PT _, by simpa [strR] using hk⟩

/-! ### multiplied -/
def rowR (a : Rat) : Nat → List Rat → List Rat → List Rat
  | _, [], fd => fd
  | n, b :: q, fd => rowR a (n + 1) q (fd.set n (fd.getD n 0 + a * b))
def mulAcc : Nat → List Rat → List Rat → List Rat → List Rat
  | _, [], _, fd => fd
  | n, a :: p, q, fd => mulAcc (n + 1) p q (rowR a n q fd)
def mulR (p q : List Rat) : List Rat := trimR (mulAcc 0 p q (List.replicate (p.length + q.length - 1) 0))
theorem rowR_len (a : Rat) : ∀ (q : List Rat) (n : Nat) (fd : List Rat), (rowR a n q fd).length = fd.length
  | [], _, _ => rfl
  | b :: q, n, fd => by rw [rowR, rowR_len a q, List.length_set]
theorem rowR_snoc (a b : Rat) : ∀ (q : List Rat) (n : Nat) (fd : List Rat), rowR a n (q ++ [b]) fd = (rowR a n q fd).set (n + q.length) ((rowR a n q fd).getD (n + q.length) 0 + a * b)
  | [], n, fd => by simp [rowR]
  | c :: q, n, fd => by
    rw [List.cons_append, rowR, rowR, rowR_snoc a b q (n + 1), List.length_cons, show n + 1 + q.length = n + (q.length + 1) by omega]
theorem rowR_after (a : Rat) : ∀ (q : List Rat) (n m : Nat) (fd : List Rat), n + q.length ≤ m → (rowR a n q fd)[m]? = fd[m]?
  | [], _, _, _, _ => rfl
  | c :: q, n, m, fd, h => by
    rw [rowR, rowR_after a q (n + 1) m _ (by simp at h; omega), List.getElem?_set_ne (by simp at h; omega)]
theorem mulAcc_snoc (a : Rat) (q : List Rat) : ∀ (p : List Rat) (n : Nat) (fd : List Rat), mulAcc n (p ++ [a]) q fd = rowR a (n + p.length) q (mulAcc n p q fd)
  | [], n, fd => by simp [mulAcc]
  | c :: p, n, fd => by
    rw [List.cons_append, mulAcc, mulAcc, mulAcc_snoc a q p (n + 1), List.length_cons, show n + 1 + p.length = n + (p.length + 1) by omega]
theorem mulAcc_len (q : List Rat) : ∀ (p : List Rat) (n : Nat) (fd : List Rat), (mulAcc n p q fd).length = fd.length
  | [], _, _ => rfl
  | a :: p, n, fd => by rw [mulAcc, mulAcc_len q p, rowR_len]
theorem bd_set {c : Nat} {fd : List Rat} {n : Nat} {v : Rat} (h : BdL c fd) (hv : Bd c v) : BdL c (fd.set n v) := fun q hq => by
  rcases List.mem_or_eq_of_mem_set hq with h1 | h1
  · exact h q h1
  · rw [h1]
    exact hv
theorem rowR_bd {a : Rat} {c u v : Nat} (ha : Bd u a) : ∀ {q : List Rat} {n : Nat} {fd : List Rat}, BdL v q → (∀ m x, n ≤ m → fd[m]? = some x → Bd c x) → BdL (c + (u + v) + 1) fd → BdL (c + (u + v) + 1) (rowR a n q fd)
  | [], _, _, _, _, h => h
  | b :: q, n, fd, hq, hc, h => by
    rw [rowR]
    have hv : Bd (c + (u + v) + 1) (fd.getD n 0 + a * b) := by
      cases e : fd[n]? with
      | some x =>
        rw [List.getD_eq_getElem?_getD, e]
        exact (hc n x (Nat.le_refl _) e).add (ha.mul hq.head)
      | none =>
        rw [List.getD_eq_getElem?_getD, e]
        show Bd _ (0 + a * b)
        rw [Rat.zero_add]
        exact (ha.mul hq.head).mono (by omega)
    refine rowR_bd ha hq.tail (fun m x hm e => ?_) (bd_set h hv)
    rw [List.getElem?_set_ne (by omega)] at e
    exact hc m x (by omega) e
theorem mulAcc_bd {u v : Nat} {q : List Rat} (hq : BdL v q) : ∀ {p : List Rat} {n c : Nat} {fd : List Rat}, BdL u p → BdL c fd → BdL (c + p.length * (u + v + 1)) (mulAcc n p q fd)
  | [], n, c, fd, _, h => h.mono (by simp)
  | a :: p, n, c, fd, hp, h => by
    rw [mulAcc]
    have h1 := rowR_bd (c := c) hp.head (n := n) hq (fun m x _ e => h.get e) (h.mono (by omega))
    refine (mulAcc_bd hq hp.tail h1).mono ?_
    rw [List.length_cons, Nat.succ_mul]
    omega
theorem set_PL (l : List Rat) (i : Nat) (v : Rat) : (PL l).set i (Fr v) = PL (l.set i v) := by simp [PL]
theorem rep_PL (n : Nat) : (List.replicate n [PyData.tuple [.int 0, .int 1]]).flatten = PL (List.replicate n 0) := by
  induction n with
  | zero => rfl
  | succ n ih => rw [List.replicate_succ, List.replicate_succ, List.flatten_cons, ih] <;> rfl
theorem ix_ok {n i : Nat} (h : i < n) : ixOf n (i : Int) = some i := by
  have : (i : Int) < n := by omega
  simp [ixOf, L2.ixN, this]
theorem rep_n {xs : List PyData} {n : Int} {m : Nat} (h : n.toNat = m) (hn : n < 2 ^ 63 ∧ -(2 ^ 63) ≤ n) (hz : xs.length * m ≤ 1000) (hk : k (.new (List.replicate m xs).flatten)) : w2 .mul (.new xs) (.d (.int n)) k := by
  subst h
  exact ⟨_, _, rfl, rfl, ⟨hn.2, hn.1, sz _ hz⟩, hk⟩
theorem max0_nat (z : Int) : (b3 .max 0 z).toNat = z.toNat := by
  unfold b3
  dsimp only
  split <;> omega
theorem max0_lt {z : Int} (h : z < 100000) : b3 .max 0 z < 2 ^ 63 ∧ -(2 ^ 63) ≤ b3 .max 0 z := by
  unfold b3
  dsimp only
  split <;> omega
theorem put_ok {fe : FE} {i : Nat} {j e : E} {ρ : List SV} {kf : KF} {l : List Rat} {m : Nat} (ho : ρ[i]? = some (.own (PL l))) (hm : m < l.length) (v : Rat) (hj : ∀ ka : KA, ka (.d (.int m)) → (ev fe x j).v ρ ka) (he : ∀ ka : KA, ka (.d (Fr v)) → (ev fe x e).v ρ ka)
    (hk : kf (.nx (ρ.set i (.own (PL (l.set m v)))))) : ex fe x (.put i j e) ρ kf := by
  rw [x_put]
  refine he _ ⟨Fr v, rfl, PL l, ho, hj _ ?_⟩
  rw [int_w]
  exact ⟨m, ix_ok (by rw [PL_len]; exact hm), by rw [set_PL]; exact hk⟩
theorem multiplied_ok {p q : List Rat} {a b : Nat} (hp : BdL a p) (hq : BdL b q) (hz : (p.length + 2) * (a + b + 1) < 8000) (hn : p.length ≤ 400 ∧ q.length ≤ 400) (hk : k (.d (PT (mulR p q)))) : F_multiplied [.d (PT p), .d (PT q)] k x := by
  simp [F_multiplied, runF, b_multiplied, PT, PL_len]
  refine ⟨by decide, ?_⟩
  refine rep_n (m := p.length + q.length - 1) ?_ ?_ (by simp; omega) ?_
  · rw [max0_nat]
    omega
  · exact max0_lt (by omega)
  rw [rep_PL]
  simp
  let I : Nat → List SV → Prop := fun i ρ => ∃ u v w y, ρ = [.d (PT p), .d (PT q), .own (PL (mulAcc 0 (p.take i) q (List.replicate (p.length + q.length - 1) 0))), u, v, w, y]
  refine loop_inv I (i := 0) ⟨.un, .un, .un, .un, by simp [PT, mulAcc]⟩ (fun i y ρ hy hI => ?_) fun ρ hI => ?_
  · obtain ⟨u, v, w, y', rfl⟩ := hI
    simp only [Nat.zero_add]
    obtain ⟨c, hc, rfl⟩ := enuL_PL p 0 i y hy
    have hi : i < p.length := (List.getElem?_eq_some_iff.mp hc).1
    rw [Nat.zero_add]
    refine ⟨_, by simp [tgt, setD]; rfl, fun kf h => ?_⟩
    simp [PT]
    generalize hfd : mulAcc 0 (p.take i) q (List.replicate (p.length + q.length - 1) 0) = fd
    have hfl : fd.length = p.length + q.length - 1 := by rw [← hfd, mulAcc_len, List.length_replicate]
    have hfb : BdL (1 + i * (a + b + 1)) fd := by
      rw [← hfd]
      have := mulAcc_bd hq (p := p.take i) (n := 0) (c := 1) (fd := List.replicate (p.length + q.length - 1) 0) (hp.sub fun _ => List.mem_of_mem_take) (fun z hz => by rw [(List.mem_replicate.mp hz).2]; exact bd0)
      rwa [List.length_take, Nat.min_eq_left (by omega)] at this
    have hcb := hp.get hc
    let J : Nat → List SV → Prop := fun j ρ => ∃ w y, ρ = [.d (PT p), .d (PT q), .own (PL (rowR c i (q.take j) fd)), .d (.int i), .d (Fr c), w, y]
    refine loop_inv J (i := 0) ⟨w, y', by simp [PT, rowR]⟩ (fun j z ρ hz' hJ => ?_) fun ρ hJ => ?_
    · obtain ⟨w, y, rfl⟩ := hJ
      simp only [Nat.zero_add]
      obtain ⟨d, hd, rfl⟩ := enuL_PL q 0 j z hz'
      have hj : j < q.length := (List.getElem?_eq_some_iff.mp hd).1
      rw [Nat.zero_add]
      refine ⟨_, by simp [tgt, setD]; rfl, fun kf2 h2 => ?_⟩
      have hlen : i + j < (rowR c i (q.take j) fd).length := by rw [rowR_len, hfl]; omega
      have hget : (rowR c i (q.take j) fd)[i + j]? = fd[i + j]? := rowR_after _ _ _ _ _ (by rw [List.length_take]; omega)
      obtain ⟨g, hg⟩ : ∃ g, fd[i + j]? = some g := ⟨fd[i + j]'(by rw [hfl]; omega), List.getElem?_eq_getElem _⟩
      have hgb := hfb.get hg
      have hdb := hq.get hd
      have hm : i * (a + b + 1) + 2 * (a + b + 1) ≤ (p.length + 2) * (a + b + 1) := by
        rw [← Nat.add_mul]
        exact Nat.mul_le_mul_right _ (by omega)
      rw [x_cons]
      refine put_ok (l := rowR c i (q.take j) fd) (m := i + j) rfl hlen (g + c * d) (fun ka hka => ?_) (fun ka hka => ?_) ?_
      · simpa using hka
      · simp [fe_multiplied]
        have e1 : (i : Int) + (j : Int) = ((i + j : Nat) : Int) := by omega
        rw [e1]
        refine idx_b (PL_at (hget.trans hg)) ?_
        simp
        refine times_ok hcb hdb (by omega) ?_
        simp
        exact plus_ok hgb (hcb.mul hdb) (by omega) (by simpa using hka)
      · simp
        refine h2 _ ⟨.d (.int j), .d (Fr d), ?_⟩
        have ht : q.take (j + 1) = q.take j ++ [d] := by rw [List.take_succ, hd] <;> rfl
        rw [ht, rowR_snoc, List.length_take, Nat.min_eq_left (by omega), List.getD_eq_getElem?_getD, hget, hg]
        rfl
    · obtain ⟨w, y, rfl⟩ := hJ
      refine h _ ⟨.d (.int i), .d (Fr c), w, y, ?_⟩
      have ht : p.take (i + 1) = p.take i ++ [c] := by rw [List.take_succ, hc] <;> rfl
      rw [ht, mulAcc_snoc, List.length_take, Nat.min_eq_left (by omega), hfd, Nat.zero_add, Nat.zero_add, enuL_length, PL_len, List.take_length]
  · obtain ⟨u, v, w, y, rfl⟩ := hI
    rw [enuL_length, PL_len, Nat.zero_add, List.take_length]
    simp [fe_multiplied]
    exact trimmed_ok (by rw [mulAcc_len, List.length_replicate]; omega) ⟨_, rfl, bare_PT _, by simpa [mulR] using hk⟩
end
end Un
end
section
/-! Un: shifted. -/
namespace Un
open PySem Pg
def hor (f : Rat) : List Rat → List Rat
  | [] => []
  | a :: l => (a + (hor f l).headD 0 * f) :: hor f l
theorem hor_len (f : Rat) : ∀ l : List Rat, (hor f l).length = l.length
  | [] => rfl
  | a :: l => by rw [hor, List.length_cons, List.length_cons, hor_len f l]
theorem hor_bd {f : Rat} {a b : Nat} (hf : Bd b f) : ∀ {l : List Rat}, BdL a l → BdL (l.length * (a + b + 1)) (hor f l) ∧ Bd (l.length * (a + b + 1) + 1) ((hor f l).headD 0)
  | [], _ => ⟨fun q h => by simp [hor] at h, bd0.mono (by omega)⟩
  | [c], h => by
    have e : hor f [c] = [c] := by simp [hor, Rat.zero_mul, Rat.add_zero]
    rw [e]
    refine ⟨fun q hq => ?_, h.head.mono (by simp; omega)⟩
    have : q = c := by simpa using hq
    subst this
    exact h.head.mono (by simp; omega)
  | c :: d :: l, h => by
    obtain ⟨h1, h2⟩ := hor_bd (l := d :: l) hf h.tail
    have h3 : Bd ((c :: d :: l).length * (a + b + 1)) (c + (hor f (d :: l)).headD 0 * f) := by
      have e : hor f (d :: l) = (d + (hor f l).headD 0 * f) :: hor f l := rfl
      have h4 : Bd ((d :: l).length * (a + b + 1)) ((hor f (d :: l)).headD 0) := by
        rw [e]
        exact h1 _ (by rw [e]; simp)
      have e5 : (c :: d :: l).length * (a + b + 1) = (d :: l).length * (a + b + 1) + (a + b + 1) := by rw [List.length_cons, Nat.succ_mul]
      refine (h.head.add (h4.mul hf)).mono ?_
      omega
    refine ⟨fun q hq => ?_, h3.mono (by omega)⟩
    rw [hor] at hq
    rcases List.mem_cons.mp hq with rfl | hq
    · exact h3
    · refine (h1 q hq).mono (Nat.mul_le_mul_right _ (by simp))
def shRows (f : Rat) (l : List Rat) : Nat → List Rat
  | 0 => l
  | i + 1 => (shRows f l i).take i ++ hor f ((shRows f l i).drop i)
def shR (l : List Rat) (f : Rat) : List Rat := shRows f l (l.length - 1)
theorem shRows_len (f : Rat) (l : List Rat) : ∀ i, (shRows f l i).length = l.length
  | 0 => rfl
  | i + 1 => by rw [shRows, List.length_append, hor_len, List.length_take, List.length_drop, shRows_len f l i]; omega
def shBits (n a b : Nat) : Nat → Nat
  | 0 => a
  | i + 1 => n * (shBits n a b i + b + 1)
theorem shRows_bd {f : Rat} {a b : Nat} {l : List Rat} (hf : Bd b f) (hl : BdL a l) (hn : 0 < l.length) : ∀ i, BdL (shBits l.length a b i) (shRows f l i)
  | 0 => hl
  | i + 1 => by
    have ih := shRows_bd hf hl hn i
    intro q hq
    rw [shRows] at hq
    rcases List.mem_append.mp hq with h | h
    · refine (ih q (List.mem_of_mem_take h)).mono ?_
      show _ ≤ l.length * _
      refine Nat.le_trans ?_ (Nat.le_mul_of_pos_left _ hn)
      omega
    · refine ((hor_bd hf (ih.sub fun _ => List.mem_of_mem_drop)).1 q h).mono ?_
      show _ ≤ l.length * _
      exact Nat.mul_le_mul_right _ (by rw [List.length_drop, shRows_len]; omega)
theorem shBits_le {n a b : Nat} (hn : 0 < n) : ∀ {i j : Nat}, i ≤ j → shBits n a b i ≤ shBits n a b j
  | i, 0, h => by
    obtain rfl : i = 0 := by omega
    exact Nat.le_refl _
  | i, j + 1, h => by
    rcases Nat.lt_or_ge i (j + 1) with h1 | h1
    · refine Nat.le_trans (shBits_le hn (Nat.lt_succ_iff.mp h1)) ?_
      show _ ≤ n * _
      refine Nat.le_trans ?_ (Nat.le_mul_of_pos_left _ hn)
      omega
    · obtain rfl : i = j + 1 := by omega
      exact Nat.le_refl _
section
variable {k : KA} {x : KX}
theorem getD_snoc {α : Type} (l : List α) (m : Nat) (d : α) (h : m < l.length) : l[m]? = some (l.getD m d) := by
  rw [List.getD_eq_getElem?_getD, List.getElem?_eq_getElem h] <;> rfl
/-- a row, done from the back down to m -/
def part (f : Rat) (s : List Rat) (m : Nat) : List Rat := s.take m ++ hor f (s.drop m)
theorem part_len (f : Rat) (s : List Rat) (m : Nat) : (part f s m).length = s.length := by
  unfold part
  rw [List.length_append, hor_len, List.length_take, List.length_drop]
  omega
theorem part_step (f : Rat) (s : List Rat) (m : Nat) (h : m + 1 < s.length) : ∃ u v, (part f s (m + 1))[m]? = some u ∧ (part f s (m + 1))[m + 1]? = some v ∧ u = s.getD m 0 ∧ v = (hor f (s.drop (m + 1))).headD 0 ∧ (part f s (m + 1)).set m (u + v * f) = part f s m := by
  have h1 : s.drop (m + 1) = s[m + 1] :: s.drop (m + 2) := List.drop_eq_getElem_cons h
  have h0 : s.drop m = s[m] :: s.drop (m + 1) := List.drop_eq_getElem_cons (by omega)
  have e1 : (part f s (m + 1))[m]? = some s[m] := by
    unfold part
    rw [List.getElem?_append_left (by rw [List.length_take]; omega), List.getElem?_take_of_lt (by omega), List.getElem?_eq_getElem]
  have e2 : (part f s (m + 1))[m + 1]? = some ((hor f (s.drop (m + 1))).headD 0) := by
    unfold part
    rw [List.getElem?_append_right (by rw [List.length_take]; omega), List.length_take, Nat.min_eq_left (by omega), Nat.sub_self, h1, hor]
    rfl
  refine ⟨_, _, e1, e2, ?_, rfl, ?_⟩
  · rw [List.getD_eq_getElem?_getD, List.getElem?_eq_getElem (by omega)] <;> rfl
  · unfold part
    rw [h0, hor, List.take_succ_eq_append_getElem (by omega), List.append_assoc, List.set_append_right _ _ (by rw [List.length_take]; omega), List.length_take, Nat.min_eq_left (by omega), Nat.sub_self]
    rfl
theorem rng_down {m n : Int} (h1 : -(2 ^ 62) ≤ m ∧ m < 2 ^ 62) (h2 : -(2 ^ 62) ≤ n ∧ n < 2 ^ 62) : L2.RgC m n (-1) (m - n).toNat := L2.RgC.neg h1.1 h1.2 h2.1 h2.2
theorem rng_get {lo c : Int} {n i : Nat} {y : PyData} (h : (rngL lo c n)[i]? = some y) : i < n ∧ y = .int (lo + (i : Int) * c) := by
  unfold rngL at h
  rw [List.getElem?_map] at h
  cases e : (List.range n)[i]? with
  | none => rw [e] at h; cases h
  | some j =>
    have hi : i < n := by simpa using (List.getElem?_eq_some_iff.mp e).1
    rw [List.getElem?_range hi] at e
    cases e
    rw [List.getElem?_range hi] at h
    exact ⟨hi, (Option.some.inj h).symm⟩
theorem rngL_length (lo c : Int) (n : Nat) : (rngL lo c n).length = n := by simp [rngL]
theorem shifted_ok {l : List Rat} {f : Rat} {a b : Nat} (hl : BdL a l) (hf : Bd b f) (hz : 2 * shBits l.length a b l.length + b + 10 < 8000) (hn : l.length ≤ 400) (hk : k (.d (PT (shR l f)))) : F_shifted [.d (PT l), .d (Fr f)] k x := by
  simp [F_shifted, runF, b_shifted, PT, PL_len, RngOk]
  refine ⟨⟨by omega, by omega⟩, ?_⟩
  let I : Nat → List SV → Prop := fun i ρ => ∃ u v, ρ = [.d (PT l), .d (Fr f), .own (PL (shRows f l i)), u, v]
  refine loop_inv I (i := 0) ⟨.un, .un, by simp [PT, shRows]⟩ (fun i y ρ hy hI => ?_) fun ρ hI => ?_
  · obtain ⟨u, v, rfl⟩ := hI
    try simp only [Nat.zero_add]
    obtain ⟨hi, rfl⟩ := rng_get hy
    have hi2 : i + 1 < l.length := by omega
    refine ⟨_, rfl, fun kf h => ?_⟩
    try simp only [Nat.zero_add] at h
    generalize hs : shRows f l i = s at *
    have hsl : s.length = l.length := by rw [← hs, shRows_len]
    have hsb : BdL (shBits l.length a b l.length) s := by
      rw [← hs]
      exact (shRows_bd hf hl (by omega) i).mono (shBits_le (by omega) (by omega))
    simp [PL_len]
    refine ⟨_, rng_down ⟨by omega, by omega⟩ ⟨by omega, by omega⟩, ?_⟩
    let J : Nat → List SV → Prop := fun j ρ => ∃ v, ρ = [.d (PT l), .d (Fr f), .own (PL (part f s (l.length - 1 - j))), .d (.int i), v]
    refine loop_inv J (i := 0) ⟨v, ?_⟩ (fun j z ρ hz' hJ => ?_) fun ρ hJ => ?_
    · have hp : part f s (l.length - 1 - 0) = s := by
        have h1 : s.drop (l.length - 1) = [s[l.length - 1]'(by omega)] := by
          rw [List.drop_eq_getElem_cons (by omega), List.drop_eq_nil_of_le (by omega)]
        unfold part
        rw [Nat.sub_zero, h1]
        simp only [hor, List.headD_nil, Rat.zero_mul, Rat.add_zero]
        rw [← h1, List.take_append_drop]
      rw [hp]
      try simp [PT]
    · obtain ⟨v, rfl⟩ := hJ
      try simp only [Nat.zero_add]
      obtain ⟨hj, rfl⟩ := rng_get hz'
      obtain ⟨m, hm⟩ : ∃ m : Nat, l.length - 1 - j = m + 1 := ⟨l.length - 2 - j, by omega⟩
      have hm2 : (s.length : Int) - 2 + (j : Int) * -1 = (m : Int) := by omega
      rw [hm2]
      refine ⟨_, rfl, fun kf2 h2 => ?_⟩
      rw [hm]
      obtain ⟨c, d, g1, g2, g3, g4, g5⟩ := part_step f s m (by omega)
      have hcb : Bd (shBits l.length a b l.length) c := by
        rw [g3]
        exact hsb.get (getD_snoc s m 0 (by omega))
      have hdb : Bd (shBits l.length a b l.length + 1) d := by
        rw [g4, ← hs]
        refine (hor_bd hf ((shRows_bd hf hl (by omega) i).sub fun _ => List.mem_of_mem_drop)).2.mono ?_
        have h3 : shBits l.length a b (i + 1) ≤ shBits l.length a b l.length := shBits_le (by omega) (by omega)
        have h4 : ((shRows f l i).drop (m + 1)).length * (shBits l.length a b i + b + 1) ≤ l.length * (shBits l.length a b i + b + 1) := Nat.mul_le_mul_right _ (by rw [List.length_drop, shRows_len]; omega)
        show _ ≤ shBits l.length a b l.length + 1
        have h5 : shBits l.length a b (i + 1) = l.length * (shBits l.length a b i + b + 1) := rfl
        omega
      rw [x_cons]
      refine put_ok (l := part f s (m + 1)) (m := m) rfl (by rw [part_len]; omega) (c + d * f) (fun ka hka => ?_) (fun ka hka => ?_) ?_
      · simpa using hka
      · simp [fe_shifted]
        refine idx_b (PL_at g1) ?_
        simp
        have e1 : (m : Int) + 1 = ((m + 1 : Nat) : Int) := by omega
        rw [e1]
        refine idx_b (PL_at g2) ?_
        simp
        refine times_ok hdb hf (by omega) ?_
        simp
        exact plus_ok hcb (hdb.mul hf) (by omega) (by simpa using hka)
      · rw [g5]
        simp
        refine h2 _ ⟨.d (.int m), ?_⟩
        have e2 : l.length - 1 - (j + 1) = m := by omega
        rw [e2]
    · obtain ⟨v, rfl⟩ := hJ
      refine h _ ⟨.d (.int i), v, ?_⟩
      rw [rngL_length, shRows, hs]
      have e3 : l.length - 1 - (0 + ((s.length : Int) - 2 - ((i : Int) - 1)).toNat) = i := by omega
      rw [e3]
      rfl
  · obtain ⟨u, v, rfl⟩ := hI
    rw [rngL_length]
    simpa [shR, PT] using hk
end
end Un
end
section
/-! Un: polynomials by their coefficients. -/
namespace Un
open PySem Pg
def cf (l : List Rat) (i : Nat) : Rat := l.getD i 0
@[simp] theorem cf_nil {i : Nat} : cf [] i = 0 := by simp [cf]
@[simp] theorem cf_0 {a : Rat} {l : List Rat} : cf (a :: l) 0 = a := by simp [cf]
@[simp] theorem cf_s {a : Rat} {l : List Rat} {i : Nat} : cf (a :: l) (i + 1) = cf l i := by simp [cf]
theorem cf_trim : ∀ (l : List Rat) (i : Nat), cf (trimR l) i = cf l i
  | [], _ => rfl
  | a :: l, i => by
    have ih := cf_trim l
    rw [trimR]
    split
    · next h =>
      rw [cf_nil]
      cases i with
      | zero => simp [h.2]
      | succ i =>
        have := ih i
        rw [h.1, cf_nil] at this
        simpa using this
    · cases i with
      | zero => simp
      | succ i => simpa using ih i
theorem trim_len : ∀ l : List Rat, (trimR l).length ≤ l.length
  | [] => Nat.le_refl _
  | a :: l => by
    have := trim_len l
    rw [trimR]
    split
    · simp
    · simpa using this
theorem trim_zero : ∀ {l : List Rat}, (∀ i, cf l i = 0) → trimR l = []
  | [], _ => rfl
  | a :: l, h => by
    have h0 := h 0
    have ih := trim_zero (l := l) fun i => by simpa using h (i + 1)
    simp at h0
    simp [trimR, ih, h0]
theorem trim_ext : ∀ {l m : List Rat}, (∀ i, cf l i = cf m i) → trimR l = trimR m
  | [], m, h => (trim_zero fun i => by rw [← h i]; simp).symm
  | a :: l, [], h => trim_zero fun i => by rw [h i]; simp
  | a :: l, b :: m, h => by
    have h0 := h 0
    simp at h0
    have ih := trim_ext (l := l) (m := m) fun i => by simpa using h (i + 1)
    rw [trimR, trimR, ih, h0]
theorem eq_of_cf {l m : List Rat} (hl : trimR l = l) (hm : trimR m = m) (h : ∀ i, cf l i = cf m i) : l = m := by rw [← hl, ← hm, trim_ext h]
theorem trim_idem (l : List Rat) : trimR (trimR l) = trimR l := trim_ext (cf_trim l)
theorem cf_end {l : List Rat} {i : Nat} (h : l.length ≤ i) : cf l i = 0 := by simp [cf, List.getElem?_eq_none h]
theorem trimmed_of : ∀ {l : List Rat}, (l.length = 0 ∨ cf l (l.length - 1) ≠ 0) → trimR l = l := fun {l} h => by
  rcases List.eq_nil_or_concat l with rfl | ⟨m, c, rfl⟩
  · rfl
  · rw [List.concat_eq_append] at h ⊢
    refine trimR_snoc ?_ m
    simpa [cf] using h
theorem of_trimmed {l : List Rat} (h : trimR l = l) : l.length = 0 ∨ cf l (l.length - 1) ≠ 0 := by
  rcases List.eq_nil_or_concat l with rfl | ⟨m, c, rfl⟩
  · exact .inl rfl
  · rw [List.concat_eq_append] at h ⊢
    refine .inr ?_
    by_cases hc : c = 0
    · subst hc
      rw [trimR_snoc0] at h
      have := congrArg List.length h
      have h2 := trim_len m
      rw [List.length_append] at this
      simp at this
      omega
    · simpa [cf] using hc
theorem cf_get {l : List Rat} {i : Nat} {q : Rat} (h : l[i]? = some q) : cf l i = q := by simp [cf, h]
theorem cf_dz (l : List Rat) (n i : Nat) : cf (dz n l) i = cf l i * ((n + i : Nat) : Rat) := by
  rcases Nat.lt_or_ge i l.length with h | h
  · have e : l[i]? = some l[i] := List.getElem?_eq_getElem h
    rw [cf_get (dz_get l n i _ e), cf_get e]
  · rw [cf_end h, cf_end (by rw [dz_len]; exact h), Rat.zero_mul]
theorem cf_sl (l : List Rat) (i : Nat) : cf (slR l) i = cf l (i + 1) * ((i + 1 : Nat) : Rat) := by
  unfold slR
  rw [cf_dz, Nat.add_comm 1 i]
  cases l with
  | nil => simp
  | cons a t => simp
theorem cf_hz (l : List Rat) (n i : Nat) : cf (hz n l) i = cf l i * inv1 (n + i) := by
  rcases Nat.lt_or_ge i l.length with h | h
  · have e : l[i]? = some l[i] := List.getElem?_eq_getElem h
    rw [cf_get (hz_get l n i _ e), cf_get e]
  · rw [cf_end h, cf_end (by rw [hz_len]; exact h), Rat.zero_mul]
theorem cf_hp0 (l : List Rat) : cf (hpR l) 0 = 0 := by cases l <;> simp [hpR]
theorem cf_hp (l : List Rat) (i : Nat) : cf (hpR l) (i + 1) = cf l i * inv1 i := by
  cases l with
  | nil => simp [hpR]
  | cons a t =>
    rw [hpR, cf_s, cf_hz, Nat.zero_add]
theorem cf_addL : ∀ (p q : List Rat) (i : Nat), cf (addL p q) i = cf p i + cf q i
  | [], q, i => by simp [addL, Rat.zero_add]
  | a :: p, [], i => by simp [addL, Rat.add_zero]
  | a :: p, b :: q, 0 => by simp [addL]
  | a :: p, b :: q, i + 1 => by simp [addL, cf_addL p q i]
theorem cf_add (p q : List Rat) (i : Nat) : cf (addR p q) i = cf p i + cf q i := by rw [addR, cf_trim, cf_addL]
theorem cf_map (f : Rat) : ∀ (l : List Rat) (i : Nat), cf (l.map (· * f)) i = cf l i * f
  | [], i => by simp
  | a :: l, 0 => by simp
  | a :: l, i + 1 => by simpa using cf_map f l i
theorem cf_sc (l : List Rat) (f : Rat) (i : Nat) : cf (scR l f) i = cf l i * f := by rw [scR, cf_trim, cf_map]
theorem cf_st (f : Rat) : ∀ (l : List Rat) (n i : Nat), cf (stL f n l) i = cf l i * pwR f (n + i)
  | [], n, i => by simp [stL]
  | a :: l, n, 0 => by simp [stL]
  | a :: l, n, i + 1 => by
    have := cf_st f l (n + 1) i
    rw [show n + 1 + i = n + (i + 1) by omega] at this
    simpa [stL] using this
theorem cf_str (l : List Rat) (f : Rat) (i : Nat) : cf (strR l f) i = cf l i * pwR f i := by rw [strR, cf_trim, cf_st, Nat.zero_add]
/-! ### products -/
def cv : Nat → (Nat → Rat) → (Nat → Rat) → Rat
  | 0, f, g => f 0 * g 0
  | n + 1, f, g => f 0 * g (n + 1) + cv n (fun i => f (i + 1)) g
theorem cv_add : ∀ (n : Nat) (f h g : Nat → Rat), cv n (fun i => f i + h i) g = cv n f g + cv n h g
  | 0, f, h, g => by simp [cv]; grind
  | n + 1, f, h, g => by simp only [cv, cv_add n]; grind
def dv (f : Nat → Rat) (i : Nat) : Rat := f (i + 1) * ((i + 1 : Nat) : Rat)
theorem cast1 (n : Nat) : ((n + 1 : Nat) : Rat) = (n : Rat) + 1 := by simp
theorem cv_dv : ∀ (n : Nat) (f g : Nat → Rat), cv (n + 1) f g * ((n + 1 : Nat) : Rat) = cv n (dv f) g + cv n f (dv g)
  | 0, f, g => by simp [cv, dv]; grind
  | n + 1, f, g => by
    have ih := cv_dv n (fun i => f (i + 1)) g
    have e : (fun i => dv f (i + 1)) = fun i => dv (fun i => f (i + 1)) i + f (i + 1 + 1) := by
      funext i
      simp only [dv, cast1]
      grind
    have e2 := cv_add n (dv fun i => f (i + 1)) (fun i => f (i + 1 + 1)) g
    rw [show cv (n + 1) (dv f) g = dv f 0 * g (n + 1) + cv n (fun i => dv f (i + 1)) g from rfl, e, e2]
    rw [show cv (n + 1 + 1) f g = f 0 * g (n + 1 + 1) + cv (n + 1) (fun i => f (i + 1)) g from rfl]
    rw [show cv (n + 1) f (dv g) = f 0 * dv g (n + 1) + cv n (fun i => f (i + 1)) (dv g) from rfl]
    rw [show cv (n + 1) (fun i => f (i + 1)) g = f 1 * g (n + 1) + cv n (fun i => f (i + 1 + 1)) g from rfl] at ih ⊢
    simp only [dv, cast1] at ih ⊢
    generalize cv n (fun i => f (i + 1 + 1)) g = A at *
    generalize cv n (fun i => f (i + 1 + 1) * ((i : Rat) + 1)) g = B at *
    generalize cv n (fun i => f (i + 1)) (fun i => g (i + 1) * ((i : Rat) + 1)) = C at *
    have z : ((0 : Nat) : Rat) = 0 := rfl
    grind
theorem cf_set {fd : List Rat} {n m : Nat} {v : Rat} (h : n < fd.length) : cf (fd.set n v) m = if m = n then v else cf fd m := by
  by_cases e : m = n
  · subst e
    rw [if_pos rfl]
    simp [cf, h]
  · rw [if_neg e]
    simp [cf, List.getElem?_set_ne (Ne.symm e)]
theorem cf_row (a : Rat) : ∀ (q : List Rat) (n m : Nat) (fd : List Rat), n + q.length ≤ fd.length → cf (rowR a n q fd) m = cf fd m + (if n ≤ m then a * cf q (m - n) else 0)
  | [], n, m, fd, h => by
    simp [rowR]
    exact (Rat.add_zero _).symm
  | b :: q, n, m, fd, h => by
    rw [List.length_cons] at h
    rw [rowR, cf_row a q (n + 1) m _ (by rw [List.length_set]; omega), cf_set (by omega), show fd.getD n 0 = cf fd n from rfl]
    by_cases e : m = n
    · subst e
      rw [if_pos rfl, if_neg (by omega), if_pos (Nat.le_refl _), Nat.sub_self, cf_0, Rat.add_zero]
    · rw [if_neg e]
      by_cases h2 : n ≤ m
      · obtain ⟨j, rfl⟩ : ∃ j, m = n + 1 + j := ⟨m - n - 1, by omega⟩
        rw [if_pos (by omega), if_pos h2, show n + 1 + j - (n + 1) = j by omega, show n + 1 + j - n = j + 1 by omega, cf_s]
      · rw [if_neg (by omega), if_neg h2]
theorem cv_nil : ∀ (n : Nat) (g : Nat → Rat), cv n (cf []) g = 0
  | 0, g => by simp [cv, Rat.zero_mul]
  | n + 1, g => by
    rw [cv, cf_nil, Rat.zero_mul, show (fun i => cf [] (i + 1)) = cf [] from funext fun i => by simp, cv_nil n, Rat.zero_add]
theorem cv_cons (a : Rat) (p : List Rat) (g : Nat → Rat) : ∀ n, cv n (cf (a :: p)) g = a * g n + (if 1 ≤ n then cv (n - 1) (cf p) g else 0)
  | 0 => by simp [cv]; exact (Rat.add_zero _).symm
  | n + 1 => by
    rw [cv, cf_0, show (fun i => cf (a :: p) (i + 1)) = cf p from funext fun i => by simp, if_pos (by omega), Nat.add_sub_cancel]
theorem cf_acc (q : List Rat) : ∀ (p : List Rat) (n m : Nat) (fd : List Rat), n + p.length + q.length ≤ fd.length + 1 → cf (mulAcc n p q fd) m = cf fd m + (if n ≤ m then cv (m - n) (cf p) (cf q) else 0)
  | [], n, m, fd, h => by
    simp [mulAcc, cv_nil]
    exact (Rat.add_zero _).symm
  | a :: p, n, m, fd, h => by
    rw [List.length_cons] at h
    rw [mulAcc, cf_acc q p (n + 1) m _ (by rw [rowR_len]; omega), cf_row _ _ _ _ _ (by omega), cv_cons]
    by_cases h2 : n ≤ m
    · rw [if_pos h2, if_pos h2]
      by_cases h3 : n + 1 ≤ m
      · rw [if_pos h3, if_pos (by omega), show m - n - 1 = m - (n + 1) by omega, Rat.add_assoc]
      · rw [if_neg h3, if_neg (by omega), Rat.add_zero, Rat.add_zero]
    · rw [if_neg h2, if_neg h2, if_neg (by omega), Rat.add_zero]
theorem cf_rep (n m : Nat) : cf (List.replicate n 0) m = 0 := by
  unfold cf
  rw [List.getD_eq_getElem?_getD, List.getElem?_replicate]
  split <;> rfl
theorem cf_mul (p q : List Rat) (n : Nat) : cf (mulR p q) n = cv n (cf p) (cf q) := by
  rw [mulR, cf_trim, cf_acc _ _ _ _ _ (by rw [List.length_replicate]; omega), cf_rep, if_pos (Nat.zero_le _), Nat.sub_zero, Rat.zero_add]
/-! ### trimmed ones stay so -/
theorem tr_add (p q : List Rat) : trimR (addR p q) = addR p q := trim_idem _
theorem tr_sc (p : List Rat) (f : Rat) : trimR (scR p f) = scR p f := trim_idem _
theorem tr_str (p : List Rat) (f : Rat) : trimR (strR p f) = strR p f := trim_idem _
theorem tr_mul (p q : List Rat) : trimR (mulR p q) = mulR p q := trim_idem _
theorem sl_len (l : List Rat) : (slR l).length = l.length - 1 := by unfold slR; rw [dz_len, List.length_tail]
theorem hp_len (l : List Rat) : (hpR l).length = if l = [] then 0 else l.length + 1 := by cases l <;> simp [hpR, hz_len]
theorem nat_ne (n : Nat) : ((n + 1 : Nat) : Rat) ≠ 0 := by
  rw [show (0 : Rat) = ((0 : Nat) : Rat) from rfl, Ne, Rat.natCast_inj]
  omega
theorem inv_mul (n : Nat) : inv1 n * ((n + 1 : Nat) : Rat) = 1 := by
  rw [rat_mul, inv1_num, inv1_den, Rat.num_natCast, Rat.den_natCast]
  simp
  exact Rat.divInt_self' (by omega)
theorem inv_ne (n : Nat) : inv1 n ≠ 0 := fun h => by
  have := inv_mul n
  rw [h, Rat.zero_mul] at this
  exact absurd this (by decide)
theorem mul_ne {a b : Rat} (ha : a ≠ 0) (hb : b ≠ 0) : a * b ≠ 0 := by
  intro h
  rcases Rat.mul_eq_zero.mp h with h | h
  · exact ha h
  · exact hb h
theorem tr_sl {l : List Rat} (h : trimR l = l) : trimR (slR l) = slR l := by
  refine trimmed_of ?_
  rw [sl_len]
  rcases of_trimmed h with h | h
  · exact .inl (by omega)
  · by_cases h1 : l.length - 1 = 0
    · exact .inl h1
    · refine .inr ?_
      rw [cf_sl, show l.length - 1 - 1 + 1 = l.length - 1 by omega]
      refine mul_ne h ?_
      rw [show l.length - 1 = l.length - 1 - 1 + 1 by omega]
      exact nat_ne _
theorem tr_hp {l : List Rat} (h : trimR l = l) : trimR (hpR l) = hpR l := by
  refine trimmed_of ?_
  rw [hp_len]
  split
  · exact .inl rfl
  · next hn =>
    have hl : 0 < l.length := List.length_pos_iff.mpr hn
    rcases of_trimmed h with h | h
    · omega
    · refine .inr ?_
      rw [show l.length + 1 - 1 = l.length - 1 + 1 by omega, cf_hp]
      exact mul_ne h (inv_ne _)
/-! ### the rules -/
theorem dz_hz : ∀ (l : List Rat) (n : Nat), dz (n + 1) (hz n l) = l
  | [], _ => rfl
  | a :: l, n => by rw [hz, dz, dz_hz l (n + 1), Rat.mul_assoc, inv_mul, Rat.mul_one]
theorem sl_hp (l : List Rat) : slR (hpR l) = l := by
  cases l with
  | nil => rfl
  | cons a t => exact dz_hz (a :: t) 0
def lessR (l : List Rat) : List Rat := if cf l 0 ≠ 0 then addR l [-(cf l 0)] else l
theorem tr_less {l : List Rat} (h : trimR l = l) : trimR (lessR l) = lessR l := by
  unfold lessR
  split
  · exact tr_add _ _
  · exact h
theorem cf_less0 (l : List Rat) : cf (lessR l) 0 = 0 := by
  unfold lessR
  split
  · rw [cf_add, cf_0]; grind
  · next h => exact Decidable.not_not.mp h
theorem cf_less (l : List Rat) (i : Nat) : cf (lessR l) (i + 1) = cf l (i + 1) := by
  unfold lessR
  split
  · rw [cf_add, cf_s, cf_nil, Rat.add_zero]
  · rfl
theorem hp_sl {l : List Rat} (h : trimR l = l) : hpR (slR l) = lessR l := eq_of_cf (tr_hp (tr_sl h)) (tr_less h) fun i => by
  cases i with
  | zero => rw [cf_hp0, cf_less0]
  | succ i => rw [cf_hp, cf_sl, cf_less, Rat.mul_assoc, Rat.mul_comm _ (inv1 i), inv_mul, Rat.mul_one]
theorem sl_less {l : List Rat} (h : trimR l = l) : slR (lessR l) = slR l := eq_of_cf (tr_sl (tr_less h)) (tr_sl h) fun i => by rw [cf_sl, cf_sl, cf_less]
theorem sl_add {p q : List Rat} (hp : trimR p = p) (hq : trimR q = q) : slR (addR p q) = addR (slR p) (slR q) := eq_of_cf (tr_sl (tr_add _ _)) (tr_add _ _) fun i => by
  rw [cf_sl, cf_add, cf_add, cf_sl, cf_sl]; grind
theorem sl_sc {p : List Rat} (f : Rat) : slR (scR p f) = scR (slR p) f := eq_of_cf (tr_sl (tr_sc _ _)) (tr_sc _ _) fun i => by
  rw [cf_sl, cf_sc, cf_sc, cf_sl]; grind
theorem sl_str {p : List Rat} (f : Rat) : slR (strR p f) = scR (strR (slR p) f) f := eq_of_cf (tr_sl (tr_str _ _)) (tr_sc _ _) fun i => by
  rw [cf_sl, cf_str, cf_sc, cf_str, cf_sl, pwR]; grind
theorem hp_add (p q : List Rat) : hpR (addR p q) = trimR (addR (hpR p) (hpR q)) := eq_of_cf (tr_hp (tr_add _ _)) (trim_idem _) fun i => by
  rw [cf_trim]
  cases i with
  | zero => rw [cf_hp0, cf_add, cf_hp0, cf_hp0, Rat.add_zero]
  | succ i => rw [cf_hp, cf_add, cf_add, cf_hp, cf_hp]; grind
theorem hp_str (p : List Rat) (f : Rat) : scR (hpR (strR p f)) f = strR (hpR p) f := eq_of_cf (tr_sc _ _) (tr_str _ _) fun i => by
  cases i with
  | zero => rw [cf_sc, cf_hp0, cf_str, cf_hp0, Rat.zero_mul, Rat.zero_mul]
  | succ i => rw [cf_sc, cf_hp, cf_str, cf_str, cf_hp, pwR]; grind
theorem cf_rule (p q : List Rat) (i : Nat) : cf (addR (mulR (slR p) q) (mulR p (slR q))) i = cv (i + 1) (cf p) (cf q) * ((i + 1 : Nat) : Rat) := by
  rw [cf_add, cf_mul, cf_mul, cv_dv, show cf (slR p) = dv (cf p) from funext (cf_sl p), show cf (slR q) = dv (cf q) from funext (cf_sl q)]
theorem sl_mul (p q : List Rat) : slR (mulR p q) = addR (mulR (slR p) q) (mulR p (slR q)) := eq_of_cf (tr_sl (tr_mul _ _)) (tr_add _ _) fun i => by rw [cf_rule, cf_sl, cf_mul]
theorem hp_mul (p q m : List Rat) (h0 : cf m 0 = cf p 0 * cf q 0) (h1 : ∀ i, cf m (i + 1) = 0) : addR (hpR (addR (mulR (slR p) q) (mulR p (slR q)))) m = mulR p q := eq_of_cf (tr_add _ _) (tr_mul _ _) fun i => by
  cases i with
  | zero => rw [cf_add, cf_hp0, h0, Rat.zero_add, cf_mul]; rfl
  | succ i => rw [cf_add, h1, Rat.add_zero, cf_hp, cf_rule, cf_mul, Rat.mul_assoc, Rat.mul_comm _ (inv1 i), inv_mul, Rat.mul_one]
end Un
end
section
/-! Un: values of polynomials. -/
namespace Un
open PySem Pg
theorem ev_ext (x : Rat) : ∀ {l m : List Rat}, (∀ i, cf l i = cf m i) → evR l x = evR m x
  | [], [], _ => rfl
  | [], b :: m, h => by
    have h0 := h 0
    have ih := ev_ext x (l := []) (m := m) fun i => by simpa using h (i + 1)
    simp at h0
    show (0 : Rat) = evR m x * x + b
    rw [← ih, ← h0]
    show (0 : Rat) = 0 * x + 0
    grind
  | a :: l, [], h => by
    have h0 := h 0
    have ih := ev_ext x (l := l) (m := []) fun i => by simpa using h (i + 1)
    simp at h0
    show evR l x * x + a = (0 : Rat)
    rw [ih, h0]
    show 0 * x + 0 = (0 : Rat)
    grind
  | a :: l, b :: m, h => by
    have h0 := h 0
    have ih := ev_ext x (l := l) (m := m) fun i => by simpa using h (i + 1)
    simp at h0
    show evR l x * x + a = evR m x * x + b
    rw [ih, h0]
theorem ev_trim (l : List Rat) (x : Rat) : evR (trimR l) x = evR l x := ev_ext x (cf_trim l)
theorem ev_addL (x : Rat) : ∀ p q : List Rat, evR (addL p q) x = evR p x + evR q x
  | [], q => by
    show evR q x = 0 + evR q x
    grind
  | a :: p, [] => by
    show evR (a :: p) x = evR (a :: p) x + 0
    grind
  | a :: p, b :: q => by
    show evR (addL p q) x * x + (a + b) = (evR p x * x + a) + (evR q x * x + b)
    rw [ev_addL x p q]
    grind
theorem ev_add (p q : List Rat) (x : Rat) : evR (addR p q) x = evR p x + evR q x := by rw [addR, ev_trim, ev_addL]
theorem ev_map (f x : Rat) : ∀ l : List Rat, evR (l.map (· * f)) x = evR l x * f
  | [] => by
    show (0 : Rat) = 0 * f
    grind
  | a :: l => by
    show evR (l.map (· * f)) x * x + a * f = (evR l x * x + a) * f
    rw [ev_map f x l]
    grind
theorem ev_sc (p : List Rat) (f x : Rat) : evR (scR p f) x = evR p x * f := by rw [scR, ev_trim, ev_map]
theorem ev_st (f x : Rat) : ∀ (l : List Rat) (n : Nat), evR (stL f n l) x = pwR f n * evR l (f * x)
  | [], n => by
    show (0 : Rat) = pwR f n * 0
    grind
  | a :: l, n => by
    show evR (stL f (n + 1) l) x * x + a * pwR f n = pwR f n * (evR l (f * x) * (f * x) + a)
    rw [ev_st f x l (n + 1)]
    show pwR f n * f * evR l (f * x) * x + a * pwR f n = _
    grind
theorem ev_str (p : List Rat) (f x : Rat) : evR (strR p f) x = evR p (f * x) := by
  rw [strR, ev_trim, ev_st]
  show 1 * _ = _
  grind
/-- the product, by its first factor -/
def mulP : List Rat → List Rat → List Rat
  | [], _ => []
  | a :: p, q => addL (q.map (· * a)) (0 :: mulP p q)
theorem ev_mulP (x : Rat) : ∀ p q : List Rat, evR (mulP p q) x = evR p x * evR q x
  | [], q => by
    show (0 : Rat) = 0 * evR q x
    grind
  | a :: p, q => by
    show evR (addL (q.map (· * a)) (0 :: mulP p q)) x = (evR p x * x + a) * evR q x
    rw [ev_addL, ev_map]
    show _ + (evR (mulP p q) x * x + 0) = _
    rw [ev_mulP x p q]
    grind
theorem cf_mulP : ∀ (p q : List Rat) (n : Nat), cf (mulP p q) n = cv n (cf p) (cf q)
  | [], q, n => by
    show cf [] n = _
    rw [cf_nil, cv_nil]
  | a :: p, q, n => by
    show cf (addL (q.map (· * a)) (0 :: mulP p q)) n = _
    rw [cf_addL, cf_map, cv_cons]
    cases n with
    | zero => simp; grind
    | succ n =>
      rw [cf_s, cf_mulP p q n]
      simp
      grind
theorem ev_mul (p q : List Rat) (x : Rat) : evR (mulR p q) x = evR p x * evR q x := by
  rw [← ev_mulP]
  exact ev_ext x fun i => by rw [cf_mul, cf_mulP]
/-- dividing by x less f -/
theorem ev_hor (f x : Rat) : ∀ l : List Rat, evR l x = (hor f l).headD 0 + (x - f) * evR (hor f l).tail x ∧ (hor f l).headD 0 = evR l f
  | [] => by
    refine ⟨?_, rfl⟩
    show (0 : Rat) = 0 + (x - f) * 0
    grind
  | a :: l => by
    obtain ⟨h1, h2⟩ := ev_hor f x l
    refine ⟨?_, ?_⟩
    · show evR l x * x + a = (a + (hor f l).headD 0 * f) + (x - f) * evR (hor f l) x
      have e : evR (hor f l) x = evR (hor f l).tail x * x + (hor f l).headD 0 := by
        cases hor f l with
        | nil =>
          show (0 : Rat) = 0 * x + 0
          grind
        | cons v r => rfl
      rw [e, h1]
      grind
    · show a + (hor f l).headD 0 * f = evR l f * f + a
      rw [h2]
      grind
/-- the rows, from the first one on -/
def shQ (f : Rat) : Nat → List Rat → List Rat
  | 0, l => l
  | n + 1, l => (hor f l).take 1 ++ shQ f n (hor f l).tail
theorem shQ_rows (f : Rat) : ∀ (n m : Nat) (l : List Rat), (shRows f l m).take m ++ shQ f n ((shRows f l m).drop m) = shRows f l (m + n)
  | 0, m, l => by
    show _ ++ (shRows f l m).drop m = _
    rw [List.take_append_drop]
    rfl
  | n + 1, m, l => by
    rw [show m + (n + 1) = (m + 1) + n by omega, ← shQ_rows f n (m + 1) l]
    have hl : (shRows f l m).length = l.length := shRows_len f l m
    by_cases hm : m < l.length
    · have e : (hor f ((shRows f l m).drop m)).length = l.length - m := by rw [hor_len, List.length_drop, hl]
      have e1 : shRows f l (m + 1) = (shRows f l m).take m ++ hor f ((shRows f l m).drop m) := rfl
      have e2 : (shRows f l (m + 1)).take (m + 1) = (shRows f l m).take m ++ (hor f ((shRows f l m).drop m)).take 1 := by
        rw [e1, List.take_append, List.length_take, Nat.min_eq_left (by omega), List.take_take, show m + 1 - m = 1 by omega, Nat.min_eq_right (by omega)]
      have e3 : (shRows f l (m + 1)).drop (m + 1) = (hor f ((shRows f l m).drop m)).tail := by
        rw [e1, List.drop_append, List.length_take, Nat.min_eq_left (by omega), List.drop_eq_nil_of_le (by rw [List.length_take]; omega), List.nil_append, show m + 1 - m = 1 by omega, List.drop_one]
      rw [e2, e3, List.append_assoc]
      rfl
    · have d0 : (shRows f l m).drop m = [] := List.drop_eq_nil_of_le (by omega)
      have e1 : shRows f l (m + 1) = shRows f l m := by
        show (shRows f l m).take m ++ hor f ((shRows f l m).drop m) = _
        rw [d0, List.take_of_length_le (by omega)]
        simp [hor]
      have d1 : (shRows f l m).drop (m + 1) = [] := List.drop_eq_nil_of_le (by omega)
      rw [e1, d0, d1, List.take_of_length_le (by omega), List.take_of_length_le (by omega)]
      have nil : ∀ n, shQ f n [] = [] := fun n => by
        induction n with
        | zero => rfl
        | succ n ih => simpa [shQ, hor] using ih
      rw [nil, nil]
theorem ev_shQ (f x : Rat) : ∀ (n : Nat) (l : List Rat), l.length ≤ n + 1 → evR (shQ f n l) x = evR l (x + f)
  | 0, l, h => by
    show evR l x = _
    cases l with
    | nil => rfl
    | cons a r =>
      have : r = [] := by simpa using h
      subst this
      show 0 * x + a = 0 * (x + f) + a
      grind
  | n + 1, l, h => by
    obtain ⟨h1, h2⟩ := ev_hor f (x + f) l
    rw [h1]
    show evR ((hor f l).take 1 ++ shQ f n (hor f l).tail) x = _
    have hl := hor_len f l
    cases e : hor f l with
    | nil =>
      have nil : ∀ n, shQ f n [] = [] := fun n => by
        induction n with
        | zero => rfl
        | succ n ih => simpa [shQ, hor] using ih
      simp [nil]
      show (0 : Rat) = 0 + (x + f - f) * 0
      grind
    | cons v r =>
      rw [e] at hl
      show evR (shQ f n r) x * x + v = v + (x + f - f) * evR r (x + f)
      rw [ev_shQ f x n r (by simp at hl; omega)]
      grind
theorem ev_sh (l : List Rat) (f x : Rat) : evR (shR l f) x = evR l (x + f) := by
  have h := shQ_rows f (l.length - 1) 0 l
  have e : shQ f (l.length - 1) l = shR l f := by
    rw [Nat.zero_add] at h
    exact h
  rw [← e]
  exact ev_shQ f x _ l (by omega)
end Un
end
section
/-! Un: sizes by a common bottom; shifted, with sizes that grow with the length alone. -/
namespace Un
open PySem Pg
/-- a top of at most A over the bottom N -/
def Rp (N A : Nat) (q : Rat) : Prop := 0 < N ∧ ∃ a : Int, q = Rat.divInt a N ∧ a.natAbs ≤ A
theorem Rp.bd {N A b : Nat} {q : Rat} (h : Rp N A q) (hN : N < 2 ^ b) (hA : A < 2 ^ b) : Bd b q := by
  obtain ⟨h0, a, rfl, h1⟩ := h
  exact low_bd (by omega) (by omega) (by omega)
theorem Rp.mono {N A B : Nat} {q : Rat} (h : Rp N A q) (hB : A ≤ B) : Rp N B q := ⟨h.1, by
  obtain ⟨_, a, e, h1⟩ := h
  exact ⟨a, e, Nat.le_trans h1 hB⟩⟩
theorem Rp.lift {N A : Nat} {q : Rat} (h : Rp N A q) {M : Nat} (hM : 0 < M) : Rp (N * M) (A * M) q := by
  obtain ⟨h0, a, rfl, h1⟩ := h
  refine ⟨Nat.mul_pos h0 hM, a * M, ?_, ?_⟩
  · have hM' : (M : Int) ≠ 0 := by omega
    rw [Int.natCast_mul, Rat.divInt_mul_right hM']
  · rw [Int.natAbs_mul]
    exact Nat.mul_le_mul h1 (by simp)
theorem Rp.add {N A B : Nat} {q r : Rat} (h : Rp N A q) (g : Rp N B r) : Rp N (A + B) (q + r) := by
  obtain ⟨h0, a, rfl, h1⟩ := h
  obtain ⟨_, b, rfl, g1⟩ := g
  refine ⟨h0, a + b, ?_, by omega⟩
  have hN : (N : Int) ≠ 0 := by omega
  rw [Rat.divInt_add_divInt _ _ hN hN, ← Int.add_mul, Rat.divInt_mul_right hN]
theorem Rp.mul {N M A B : Nat} {q r : Rat} (h : Rp N A q) (g : Rp M B r) : Rp (N * M) (A * B) (q * r) := by
  obtain ⟨h0, a, rfl, h1⟩ := h
  obtain ⟨g0, b, rfl, g1⟩ := g
  refine ⟨Nat.mul_pos h0 g0, a * b, ?_, ?_⟩
  · rw [Rat.divInt_mul_divInt, Int.natCast_mul]
  · rw [Int.natAbs_mul]
    exact Nat.mul_le_mul h1 g1
theorem Rp.self (q : Rat) : Rp q.den q.num.natAbs q := ⟨q.den_pos, q.num, (Rat.num_divInt_den q).symm, Nat.le_refl _⟩
theorem Rp.zero {N : Nat} (h : 0 < N) : Rp N 0 0 := ⟨h, 0, by simp, Nat.le_refl _⟩
theorem Rp.neg {N A : Nat} {q : Rat} (h : Rp N A q) : Rp N A (-q) := by
  obtain ⟨h0, a, rfl, h1⟩ := h
  exact ⟨h0, -a, by rw [Rat.neg_divInt], by omega⟩
def RpL (N A : Nat) (l : List Rat) : Prop := ∀ q ∈ l, Rp N A q
/-- each item, so many behind it -/
def Wg (N A d G : Nat) : List Rat → Prop
  | [] => True
  | q :: l => Rp (N * d ^ l.length) (A * G ^ l.length) q ∧ Wg N A d G l
theorem Wg.mono {N A d G G' : Nat} (hG : G ≤ G') : ∀ {l : List Rat}, Wg N A d G l → Wg N A d G' l
  | [], _ => trivial
  | q :: l, h => ⟨h.1.mono (Nat.mul_le_mul_left _ (Nat.pow_le_pow_left hG _)), Wg.mono hG h.2⟩
theorem Wg.start {N A d : Nat} (hd : 0 < d) : ∀ {l : List Rat}, RpL N A l → Wg N A d d l
  | [], _ => trivial
  | q :: l, h => ⟨(h q (List.mem_cons_self ..)).lift (Nat.pow_pos hd), Wg.start hd fun r hr => h r (List.mem_cons_of_mem _ hr)⟩
theorem Wg.hor {N A G : Nat} {f : Rat} (hN : 0 < N) (hG : f.den ≤ G) : ∀ {l : List Rat}, Wg N A f.den G l → Wg N A f.den (G + f.num.natAbs) (hor f l)
  | [], _ => trivial
  | q :: l, h => by
    have ih := Wg.hor hN hG h.2
    refine ⟨?_, ih⟩
    rw [hor_len]
    cases l with
    | nil =>
      have e : q + (Un.hor f []).headD 0 * f = q := by
        show q + 0 * f = q
        grind
      rw [e]
      simpa using h.1
    | cons r l =>
      have e : Un.hor f (r :: l) = (r + (Un.hor f l).headD 0 * f) :: Un.hor f l := rfl
      have hv : Rp (N * f.den ^ (Un.hor f l).length) (A * (G + f.num.natAbs) ^ (Un.hor f l).length) ((Un.hor f (r :: l)).headD 0) := by
        rw [e] at ih ⊢
        exact ih.1
      rw [hor_len] at hv
      have h1 := h.1
      have h2 := hv.mul (Rp.self f)
      rw [List.length_cons]
      rw [List.length_cons] at h1
      have e1 : N * f.den ^ l.length * f.den = N * f.den ^ (l.length + 1) := by rw [Nat.pow_succ, Nat.mul_assoc]
      rw [e1] at h2
      refine (h1.add h2).mono ?_
      generalize f.num.natAbs = F at *
      rw [Nat.pow_succ, Nat.pow_succ, Nat.mul_assoc, ← Nat.mul_add]
      refine Nat.mul_le_mul_left _ ?_
      rw [Nat.mul_add]
      refine Nat.add_le_add_right (Nat.mul_le_mul_right _ (Nat.pow_le_pow_left (by omega) _)) _
theorem Wg.mem {N A d G : Nat} (hd : 0 < d) (hG : d ≤ G) : ∀ {l : List Rat} {n : Nat}, Wg N A d G l → l.length ≤ n + 1 → RpL (N * d ^ n) (A * G ^ n) l
  | [], _, _, _ => fun _ h => nomatch h
  | q :: l, n, h, hn => fun r hr => by
    rcases List.mem_cons.mp hr with rfl | hr
    · have hl : l.length ≤ n := by simpa using hn
      have h1 := h.1.lift (M := d ^ (n - l.length)) (Nat.pow_pos hd)
      have e : N * d ^ l.length * d ^ (n - l.length) = N * d ^ n := by rw [Nat.mul_assoc, ← Nat.pow_add, show l.length + (n - l.length) = n by omega]
      rw [e] at h1
      refine h1.mono ?_
      rw [Nat.mul_assoc]
      refine Nat.mul_le_mul_left _ ?_
      rw [show G ^ n = G ^ l.length * G ^ (n - l.length) by rw [← Nat.pow_add, show l.length + (n - l.length) = n by omega]]
      exact Nat.mul_le_mul_left _ (Nat.pow_le_pow_left hG _)
    · exact Wg.mem hd hG (l := l) h.2 (by simp at hn; omega) r hr
theorem Wg.part {N A G : Nat} {f : Rat} (hN : 0 < N) (hG : f.den ≤ G) : ∀ {l : List Rat} (m : Nat), Wg N A f.den G l → Wg N A f.den (G + f.num.natAbs) (part f l m)
  | l, 0, h => by
    show Wg N A f.den _ (Un.hor f l)
    exact Wg.hor hN hG h
  | [], m + 1, h => by
    show Wg N A f.den _ ([].take (m + 1) ++ Un.hor f ([].drop (m + 1)))
    simp [Un.hor, Wg]
  | q :: l, m + 1, h => by
    have ih := Wg.part hN hG m h.2
    show Wg N A f.den _ (q :: Un.part f l m)
    refine ⟨?_, ih⟩
    rw [part_len]
    exact h.1.mono (Nat.mul_le_mul_left _ (Nat.pow_le_pow_left (by omega) _))
theorem Wg.rows {N A : Nat} {f : Rat} {l : List Rat} (hN : 0 < N) (h : Wg N A f.den f.den l) : ∀ i, Wg N A f.den (f.den + i * f.num.natAbs) (shRows f l i)
  | 0 => by simpa [shRows] using h
  | i + 1 => by
    have ih := Wg.rows hN h i
    have := Wg.part (G := f.den + i * f.num.natAbs) hN (by omega) i ih
    rw [show f.den + (i + 1) * f.num.natAbs = f.den + i * f.num.natAbs + f.num.natAbs by rw [Nat.succ_mul]; omega]
    exact this
/-- all that comes while a polynomial is shifted -/
theorem sh_all {N A n : Nat} {f : Rat} {l : List Rat} (h : RpL N A l) (hn : l.length ≤ n + 1) (i m : Nat) (hi : i ≤ n) : RpL (N * f.den ^ n) (A * (f.den + (n + 1) * f.num.natAbs) ^ n) (part f (shRows f l i) m) := by
  by_cases h0 : l = []
  · subst h0
    intro q hq
    have : (part f (shRows f [] i) m).length = 0 := by rw [part_len, shRows_len]; rfl
    rw [List.length_eq_zero_iff.mp this] at hq
    cases hq
  · have hN : 0 < N := by
      obtain ⟨a, ha⟩ := List.exists_mem_of_ne_nil l h0
      exact (h a ha).1
    have w := Wg.part (G := f.den + i * f.num.natAbs) hN (by omega) m (Wg.rows hN (Wg.start f.den_pos h) i)
    have w2 := Wg.mono (G' := f.den + (n + 1) * f.num.natAbs) (by
      have : (i + 1) * f.num.natAbs ≤ (n + 1) * f.num.natAbs := Nat.mul_le_mul_right _ (by omega)
      rw [Nat.succ_mul] at this
      omega) w
    exact Wg.mem f.den_pos (by omega) w2 (by rw [part_len, shRows_len]; exact hn)
theorem sh_rp {N A n : Nat} {f : Rat} {l : List Rat} (h : RpL N A l) (hn : l.length ≤ n + 1) : RpL (N * f.den ^ n) (A * (f.den + (n + 1) * f.num.natAbs) ^ n) (shR l f) := by
  have e : shR l f = part f (shRows f l (l.length - 1)) (l.length - 1) ∨ True := .inr trivial
  have h1 := sh_all (f := f) h hn (l.length - 1) l.length (by omega)
  have e : part f (shRows f l (l.length - 1)) l.length = shR l f := by
    unfold part
    rw [List.take_of_length_le (by rw [shRows_len]; omega), List.drop_eq_nil_of_le (by rw [shRows_len]; omega)]
    simp [hor, shR]
  rw [e] at h1
  exact h1
section
variable {k : KA} {x : KX}
theorem shifted_okC {l : List Rat} {f : Rat} {C b : Nat} (hC : ∀ i m, i < l.length → BdL C (part f (shRows f l i) m)) (hf : Bd b f) (hz : 2 * C + b + 10 < 8000) (hn : l.length ≤ 400) (hk : k (.d (PT (shR l f)))) : F_shifted [.d (PT l), .d (Fr f)] k x := by
  simp [F_shifted, runF, b_shifted, PT, PL_len, RngOk]
  refine ⟨⟨by omega, by omega⟩, ?_⟩
  let I : Nat → List SV → Prop := fun i ρ => ∃ u v, ρ = [.d (PT l), .d (Fr f), .own (PL (shRows f l i)), u, v]
  refine loop_inv I (i := 0) ⟨.un, .un, by simp [PT, shRows]⟩ (fun i y ρ hy hI => ?_) fun ρ hI => ?_
  · obtain ⟨u, v, rfl⟩ := hI
    try simp only [Nat.zero_add]
    obtain ⟨hi, rfl⟩ := rng_get hy
    have hi2 : i + 1 < l.length := by omega
    refine ⟨_, rfl, fun kf h => ?_⟩
    try simp only [Nat.zero_add] at h
    have hCi := hC i
    generalize hs : shRows f l i = s at *
    have hsl : s.length = l.length := by rw [← hs, shRows_len]
    simp [PL_len]
    refine ⟨_, rng_down ⟨by omega, by omega⟩ ⟨by omega, by omega⟩, ?_⟩
    let J : Nat → List SV → Prop := fun j ρ => ∃ v, ρ = [.d (PT l), .d (Fr f), .own (PL (part f s (l.length - 1 - j))), .d (.int i), v]
    refine loop_inv J (i := 0) ⟨v, ?_⟩ (fun j z ρ hz' hJ => ?_) fun ρ hJ => ?_
    · have hp : part f s (l.length - 1 - 0) = s := by
        have h1 : s.drop (l.length - 1) = [s[l.length - 1]'(by omega)] := by
          rw [List.drop_eq_getElem_cons (by omega), List.drop_eq_nil_of_le (by omega)]
        unfold part
        rw [Nat.sub_zero, h1]
        simp only [hor, List.headD_nil, Rat.zero_mul, Rat.add_zero]
        rw [← h1, List.take_append_drop]
      rw [hp]
      try simp [PT]
    · obtain ⟨v, rfl⟩ := hJ
      try simp only [Nat.zero_add]
      obtain ⟨hj, rfl⟩ := rng_get hz'
      obtain ⟨m, hm⟩ : ∃ m : Nat, l.length - 1 - j = m + 1 := ⟨l.length - 2 - j, by omega⟩
      have hm2 : (s.length : Int) - 2 + (j : Int) * -1 = (m : Int) := by omega
      rw [hm2]
      refine ⟨_, rfl, fun kf2 h2 => ?_⟩
      rw [hm]
      obtain ⟨c, d, g1, g2, g3, g4, g5⟩ := part_step f s m (by omega)
      have hcb : Bd C c := (hCi (m + 1) (by omega)).get g1
      have hdb : Bd C d := (hCi (m + 1) (by omega)).get g2
      rw [x_cons]
      refine put_ok (l := part f s (m + 1)) (m := m) rfl (by rw [part_len]; omega) (c + d * f) (fun ka hka => ?_) (fun ka hka => ?_) ?_
      · simpa using hka
      · simp [fe_shifted]
        refine idx_b (PL_at g1) ?_
        simp
        have e1 : (m : Int) + 1 = ((m + 1 : Nat) : Int) := by omega
        rw [e1]
        refine idx_b (PL_at g2) ?_
        simp
        refine times_ok hdb hf (by omega) ?_
        simp
        exact plus_ok hcb (hdb.mul hf) (by omega) (by simpa using hka)
      · rw [g5]
        simp
        refine h2 _ ⟨.d (.int m), ?_⟩
        have e2 : l.length - 1 - (j + 1) = m := by omega
        rw [e2]
    · obtain ⟨v, rfl⟩ := hJ
      refine h _ ⟨.d (.int i), v, ?_⟩
      rw [rngL_length, shRows, hs]
      have e3 : l.length - 1 - (0 + ((s.length : Int) - 2 - ((i : Int) - 1)).toNat) = i := by omega
      rw [e3]
      rfl
  · obtain ⟨u, v, rfl⟩ := hI
    rw [rngL_length]
    simpa [shR, PT] using hk
end
end Un
end
section
/-! Un: what can be shown (repr), by size. -/
namespace Un
open PySem Pg
structure Sw (n e : Nat) (d : PyData) : Prop where
  sh : d.showable = true
  nd : d.hasDict = false
  dp : d.depth ≤ e
  ln : d.shown.length ≤ n
theorem Sw.mono {n e n' e' : Nat} {d : PyData} (h : Sw n e d) (hn : n ≤ n') (he : e ≤ e') : Sw n' e' d := ⟨h.sh, h.nd, Nat.le_trans h.dp he, Nat.le_trans h.ln hn⟩
theorem Sw.ok {n e : Nat} {d : PyData} (h : Sw n e d) (hn : n ≤ 16000000) (he : e ≤ 64) : ShowOk d := ⟨h.sh, h.nd, Nat.le_trans h.dp he, Nat.le_trans h.ln (by rw [sizeLine_eq]; omega)⟩
theorem Sw.int {i : Int} (h : i.natAbs < 2 ^ 1900) : Sw 1921 0 (.int i) := by
  have hl : i.natAbs.log2 < 1920 := by
    by_cases h0 : i.natAbs = 0
    · rw [h0]
      decide
    · exact Nat.lt_of_lt_of_le ((Nat.log2_lt h0).mpr h) (by decide)
  exact ⟨by simpa [PyData.showable] using hl, by simp [PyData.hasDict], by simp [PyData.depth], PyProof.Rows.int_text_len_1921 hl⟩
theorem sw_all {n e : Nat} : ∀ {ds : List PyData}, (∀ d ∈ ds, Sw n e d) → PyData.showableAll ds = true ∧ PyData.hasDictAll ds = false ∧ PyData.depthAll ds ≤ e ∧ ((PyData.shownAll ds).map (·.length)).sum ≤ ds.length * n ∧ (PyData.shownAll ds).length = ds.length
  | [], _ => ⟨rfl, rfl, by simp [PyData.depthAll], by simp [PyData.shownAll], rfl⟩
  | d :: ds, h => by
    obtain ⟨h1, h2, h3, h4, h5⟩ := sw_all fun x hx => h x (List.mem_cons_of_mem _ hx)
    have hd := h d (List.mem_cons_self ..)
    refine ⟨by simp [PyData.showableAll, hd.sh, h1], by simp [PyData.hasDictAll, hd.nd, h2], ?_, ?_, ?_⟩
    · simp only [PyData.depthAll]
      have := hd.dp
      omega
    · simp only [PyData.shownAll, List.map_cons, List.sum_cons, List.length_cons, Nat.succ_mul]
      have := hd.ln
      omega
    · simp only [PyData.shownAll, List.length_cons, h5]
theorem Sw.list {n e m : Nat} {ds : List PyData} (h : ∀ d ∈ ds, Sw n e d) (hm : ds.length ≤ m) : Sw (m * (n + 2) + 3) (e + 1) (.list ds) := by
  obtain ⟨h1, h2, h3, h4, h5⟩ := sw_all h
  refine ⟨by simpa [PyData.showable] using h1, by simpa [PyData.hasDict] using h2, by simp only [PyData.depth]; omega, ?_⟩
  have e := listText_len_le (PyData.shownAll ds)
  show (listText (PyData.shownAll ds)).length ≤ _
  rw [h5] at e
  have h6 : ds.length * (n + 2) ≤ m * (n + 2) := Nat.mul_le_mul_right _ hm
  rw [Nat.mul_add] at h6
  omega
theorem Sw.tuple {n e m : Nat} {ds : List PyData} (h : ∀ d ∈ ds, Sw n e d) (hm : ds.length ≤ m) : Sw (m * (n + 2) + 3) (e + 1) (.tuple ds) := by
  obtain ⟨h1, h2, h3, h4, h5⟩ := sw_all h
  refine ⟨by simpa [PyData.showable] using h1, by simpa [PyData.hasDict] using h2, by simp only [PyData.depth]; omega, ?_⟩
  have e := tupleText_len_le (PyData.shownAll ds)
  show (tupleText (PyData.shownAll ds)).length ≤ _
  rw [h5] at e
  have h6 : ds.length * (n + 2) ≤ m * (n + 2) := Nat.mul_le_mul_right _ hm
  rw [Nat.mul_add] at h6
  omega
theorem Sw.fr {q : Rat} {b : Nat} (h : Bd b q) (hb : b ≤ 1900) : Sw 3900 1 (Fr q) := by
  have h1 := (h.mono hb).1
  have h2 := (h.mono hb).dn
  refine (Sw.tuple (n := 1921) (e := 0) (m := 2) (fun d hd => ?_) (by simp)).mono (by omega) (by omega)
  simp at hd
  rcases hd with rfl | rfl
  · exact Sw.int h1
  · exact Sw.int h2
theorem Sw.pt {l : List Rat} {b m : Nat} (h : BdL b l) (hb : b ≤ 1900) (hm : l.length ≤ m) : Sw (m * 3902 + 3) 2 (PT l) := by
  refine Sw.tuple (n := 3900) (e := 1) (fun d hd => ?_) (by rw [PL_len]; exact hm)
  unfold PL at hd
  obtain ⟨q, hq, rfl⟩ := List.mem_map.mp hd
  exact Sw.fr (h q hq) hb
section
variable {k : KA}
@[simp] theorem repr_n {xs : List PyData} : w1 .repr (.new xs) k ↔ ShowOk (.list xs) ∧ k (.d (.str (PyData.shown (.list xs)))) := ⟨fun ⟨_, h1, h⟩ => by cases h1; exact h, fun h => ⟨_, rfl, h⟩⟩
@[simp] theorem repr_b {xs : List PyData} : w1 .repr (.bor xs) k ↔ ShowOk (.list xs) ∧ k (.d (.str (PyData.shown (.list xs)))) := ⟨fun ⟨_, h1, h⟩ => by cases h1; exact h, fun h => ⟨_, rfl, h⟩⟩
@[simp] theorem repr_d {d : PyData} : w1 .repr (.d d) k ↔ ShowOk d ∧ k (.d (.str d.shown)) := ⟨fun ⟨_, h1, h⟩ => by cases h1; exact h, fun h => ⟨_, rfl, h⟩⟩
@[simp] theorem eq_s {a b : Str} : w2 .eq (.d (.str a)) (.d (.str b)) k ↔ k (.d (.bool (decide (a = b)))) := ⟨fun ⟨_, _, h1, h2, h⟩ => by cases h1; cases h2; exact h, fun h => ⟨_, _, rfl, rfl, h⟩⟩
@[simp] theorem ne_s {a b : Str} : w2 .ne (.d (.str a)) (.d (.str b)) k ↔ k (.d (.bool (!decide (a = b)))) := ⟨fun ⟨_, _, h1, h2, h⟩ => by cases h1; cases h2; exact h, fun h => ⟨_, _, rfl, rfl, h⟩⟩
end
theorem list_Fr {b : Nat} : ∀ {ys : List PyData}, (∀ y ∈ ys, ∃ q, Bd b q ∧ y = Fr q) → ∃ l, ys = PL l ∧ BdL b l
  | [], _ => ⟨[], rfl, fun _ h => nomatch h⟩
  | y :: ys, h => by
    obtain ⟨q, hq, rfl⟩ := h y (List.mem_cons_self ..)
    obtain ⟨l, rfl, hl⟩ := list_Fr fun z hz => h z (List.mem_cons_of_mem _ hz)
    exact ⟨q :: l, rfl, fun r hr => by
      rcases List.mem_cons.mp hr with rfl | hr
      · exact hq
      · exact hl r hr⟩
theorem ix_last (n : Nat) : ixOf (n + 1) (-1) = some n := by
  have h : ¬ (0 : Int) ≤ -1 := by omega
  have h2 : -((n + 1 : Nat) : Int) ≤ -1 := by omega
  unfold ixOf L2.ixN
  rw [if_neg h, if_pos h2]
  congr 1
  omega
theorem idx_last {xs : List PyData} {v : PyData} {k : KA} (hk : k (.d v)) : w2 .idx (.bor (xs ++ [v])) (.d (.int (-1))) k := ⟨_, _, rfl, rfl, v, by
  have e : (xs ++ [v]).length = xs.length + 1 := by simp
  unfold atIx L2.atI
  have := ix_last xs.length
  unfold ixOf at this
  rw [e, this]
  simp, hk⟩
theorem idx_lastT {xs : List PyData} {v : PyData} {k : KA} (hk : k (.d v)) : w2 .idx (.d (.tuple (xs ++ [v]))) (.d (.int (-1))) k := ⟨_, _, rfl, rfl, v, by
  have e : (xs ++ [v]).length = xs.length + 1 := by simp
  unfold atIx L2.atI
  have := ix_last xs.length
  unfold ixOf at this
  rw [e, this]
  simp, hk⟩
theorem divInt_ne {t b : Int} (ht : t ≠ 0) (hb : b ≠ 0) : Rat.divInt t b ≠ 0 := fun h => by
  have e : Rat.divInt t b = Rat.divInt 0 1 := h.trans (by decide)
  rw [Rat.divInt_eq_divInt_iff hb (by decide)] at e
  omega
theorem cmp_all {tg : Tg} {e : List SV → KA → Prop} {ρ : List SV} {P : PyData → Prop} : ∀ {xs acc : List PyData} {k : List PyData → Prop}, (∀ x ∈ xs, ∃ ρ1, tgt tg x ρ = some ρ1 ∧ ∀ ka : KA, (∀ y, P y → ka (.d y)) → e ρ1 ka) →
    acc.length + xs.length ≤ sizeLine → (∀ ys, ys.length = xs.length → (∀ y ∈ ys, P y) → k (acc ++ ys)) → cmpW tg none e ρ xs acc k
  | [], acc, k, _, _, hk => by
    have := hk [] rfl (fun y h => nomatch h)
    rw [List.append_nil] at this
    exact this
  | x :: xs, acc, k, h, hz, hk => by
    obtain ⟨ρ1, h1, h2⟩ := h x (List.mem_cons_self ..)
    rw [List.length_cons] at hz
    refine ⟨ρ1, h1, h2 _ fun y hy => ⟨y, rfl, by omega, ?_⟩⟩
    refine cmp_all (fun z hz => h z (List.mem_cons_of_mem _ hz)) (by rw [List.length_append]; simp only [List.length_cons, List.length_nil]; omega) fun ys hl hp => ?_
    rw [List.append_assoc]
    exact hk (y :: ys) (by rw [List.length_cons, List.length_cons, hl]) fun z hz => by
      rcases List.mem_cons.mp hz with rfl | hz
      · exact hy
      · exact hp z hz
end Un
end
section
/-! Un: sizes and lengths of what the program's polynomials come to. -/
namespace Un
open PySem Pg
@[simp] theorem seq2_ll {xs ys : List PyData} {k : List PyData → List PyData → Prop} : seq2W (.d (.list xs)) (.d (.list ys)) k ↔ k xs ys := ⟨fun ⟨_, _, h1, h2, h⟩ => by cases h1; cases h2; exact h, fun h => ⟨_, _, rfl, rfl, h⟩⟩
@[simp] theorem seq2_ln {xs ys : List PyData} {k : List PyData → List PyData → Prop} : seq2W (.d (.list xs)) (.new ys) k ↔ k xs ys := ⟨fun ⟨_, _, h1, h2, h⟩ => by cases h1; cases h2; exact h, fun h => ⟨_, _, rfl, rfl, h⟩⟩
theorem trim_mem : ∀ {l : List Rat} {q : Rat}, q ∈ trimR l → q ∈ l
  | [], q, h => by simp [trimR] at h
  | a :: l, q, h => by
    rw [trimR] at h
    split at h
    · simp at h
    · rcases List.mem_cons.mp h with rfl | h
      · exact List.mem_cons_self ..
      · exact List.mem_cons_of_mem _ (trim_mem h)
theorem trim_bd {l : List Rat} {a : Nat} (h : BdL a l) : BdL a (trimR l) := fun q hq => h q (trim_mem hq)
theorem sl_bd {l : List Rat} {a : Nat} (h : BdL a l) (hn : l.length ≤ 900) : BdL (a + 10) (slR l) := by
  intro q hq
  obtain ⟨i, hi⟩ := List.getElem?_of_mem hq
  have hl : i < (slR l).length := (List.getElem?_eq_some_iff.mp hi).1
  rw [sl_len] at hl
  have e := cf_get hi
  rw [cf_sl] at e
  rw [← e]
  have h2 : l[i + 1]? = some l[i + 1] := List.getElem?_eq_getElem (by omega)
  rw [cf_get h2]
  exact (h.get h2).mul (bd_nat (b := 10) (by omega) (by decide))
theorem hp_bd {l : List Rat} {a : Nat} (h : BdL a l) (hn : l.length ≤ 900) : BdL (a + 10) (hpR l) := by
  intro q hq
  obtain ⟨i, hi⟩ := List.getElem?_of_mem hq
  have hl : i < (hpR l).length := (List.getElem?_eq_some_iff.mp hi).1
  rw [hp_len] at hl
  have e := cf_get hi
  cases i with
  | zero =>
    rw [cf_hp0] at e
    rw [← e]
    exact bd0.mono (by omega)
  | succ i =>
    rw [cf_hp] at e
    rw [← e]
    have hl' : i < l.length := by split at hl <;> omega
    have h2 : l[i]? = some l[i] := List.getElem?_eq_getElem hl'
    rw [cf_get h2]
    exact (h.get h2).mul (bd_inv (n := i) (b := 10) (by show i + 1 < 1024; omega))
theorem addL_bd {a b : Nat} : ∀ {p q : List Rat}, BdL a p → BdL b q → BdL (a + b + 1) (addL p q)
  | [], q, _, h => fun r hr => (h r (by simpa [addL] using hr)).mono (by omega)
  | a :: p, [], h, _ => fun r hr => (h r (by simpa [addL] using hr)).mono (by omega)
  | a :: p, b :: q, h, g => fun r hr => by
    rw [addL] at hr
    rcases List.mem_cons.mp hr with rfl | hr
    · exact h.head.add g.head
    · exact addL_bd h.tail g.tail r hr
theorem add_bd {a b : Nat} {p q : List Rat} (h : BdL a p) (g : BdL b q) : BdL (a + b + 1) (addR p q) := trim_bd (addL_bd h g)
theorem sc_bd {a b : Nat} {p : List Rat} {f : Rat} (h : BdL a p) (g : Bd b f) : BdL (a + b) (scR p f) := trim_bd fun q hq => by
  obtain ⟨r, hr, rfl⟩ := List.mem_map.mp hq
  exact (h r hr).mul g
theorem str_bd {a b : Nat} {p : List Rat} {f : Rat} (h : BdL a p) (g : Bd b f) : BdL (a + (p.length * b + 1)) (strR p f) := trim_bd fun q hq => by
  obtain ⟨i, hi⟩ := List.getElem?_of_mem hq
  have hl : i < (stL f 0 p).length := (List.getElem?_eq_some_iff.mp hi).1
  rw [stL_len] at hl
  have e := cf_get hi
  rw [cf_st] at e
  have h2 : p[i]? = some p[i] := List.getElem?_eq_getElem hl
  rw [← e, cf_get h2]
  refine (h.get h2).mul ((pw_bd g (0 + i)).mono ?_)
  have := Nat.mul_le_mul_right b (show 0 + i ≤ p.length by omega)
  omega
theorem mul_bd {a b : Nat} {p q : List Rat} (h : BdL a p) (g : BdL b q) : BdL (1 + p.length * (a + b + 1)) (mulR p q) := trim_bd (mulAcc_bd g h fun r hr => by rw [List.eq_of_mem_replicate hr]; exact bd0)
theorem sh_bd {a b : Nat} {p : List Rat} {f : Rat} (h : BdL a p) (g : Bd b f) (hn : 0 < p.length) : BdL (shBits p.length a b p.length) (shR p f) := (shRows_bd g h hn _).mono (shBits_le hn (by omega))
theorem addL_len : ∀ p q : List Rat, (addL p q).length = max p.length q.length
  | [], q => by simp [addL]
  | a :: p, [] => by simp [addL]
  | a :: p, b :: q => by simp only [addL, List.length_cons, addL_len p q]; omega
theorem add_len (p q : List Rat) : (addR p q).length ≤ max p.length q.length := Nat.le_trans (trim_len _) (Nat.le_of_eq (addL_len p q))
theorem sc_len (p : List Rat) (f : Rat) : (scR p f).length ≤ p.length := Nat.le_trans (trim_len _) (by simp)
theorem str_len (p : List Rat) (f : Rat) : (strR p f).length ≤ p.length := Nat.le_trans (trim_len _) (by rw [stL_len]; exact Nat.le_refl _)
theorem mul_len (p q : List Rat) : (mulR p q).length ≤ p.length + q.length := Nat.le_trans (trim_len _) (by rw [mulAcc_len, List.length_replicate]; omega)
theorem sh_len (p : List Rat) (f : Rat) : (shR p f).length = p.length := shRows_len f p _
theorem hp_len' (l : List Rat) : (hpR l).length ≤ l.length + 1 := by rw [hp_len]; split <;> omega
/-! ### to be shown -/
abbrev Pw (d : PyData) : Prop := Sw 80000 2 d
theorem pw_pt {l : List Rat} {b : Nat} (h : BdL b l) (hb : b ≤ 1900) (hn : l.length ≤ 20) : Pw (PT l) := (Sw.pt h hb hn).mono (by omega) (by omega)
theorem pw_fr {q : Rat} {b : Nat} (h : Bd b q) (hb : b ≤ 1900) : Pw (Fr q) := (Sw.fr h hb).mono (by omega) (by omega)
theorem show_ok {ds : List PyData} (h : ∀ d ∈ ds, Pw d) (hn : ds.length ≤ 20) : ShowOk (.list ds) := (Sw.list h hn).ok (by omega) (by omega)

theorem szlt {n : Nat} (h : n < 1000) : (n < sizeLine) = True := eq_true (Nat.lt_of_lt_of_le h (by decide))
theorem e0 : PyData.tuple [] = PT [] := rfl
theorem eF : PyData.tuple [.int 0, .int 1] = Fr 0 := rfl
theorem eF1 : PyData.tuple [.int 1, .int 1] = Fr 1 := rfl
theorem PT_cons {q : Rat} {l : List Rat} : PyData.tuple (Fr q :: PL l) = PT (q :: l) := rfl
section
variable {k : KA} {l m : List Rat} {q r : Rat}
@[simp] theorem eq_PT : w2 .eq (.d (PT l)) (.d (PT m)) k ↔ k (.d (.bool (decide (l = m)))) := by
  constructor
  · rintro ⟨_, _, h1, h2, h⟩
    cases h1
    cases h2
    obtain ⟨_, _, h⟩ := h
    rwa [eqv_PT] at h
  · intro h
    exact ⟨_, _, rfl, rfl, shp_PT _, shp_PT _, by rw [eqv_PT]; exact h⟩
@[simp] theorem ne_PT : w2 .ne (.d (PT l)) (.d (PT m)) k ↔ k (.d (.bool (!decide (l = m)))) := by
  constructor
  · rintro ⟨_, _, h1, h2, h⟩
    cases h1
    cases h2
    obtain ⟨_, _, h⟩ := h
    rwa [eqv_PT] at h
  · intro h
    exact ⟨_, _, rfl, rfl, shp_PT _, shp_PT _, by rw [eqv_PT]; exact h⟩
@[simp] theorem eq_PT0 : w2 .eq (.d (PT l)) (.d (.tuple [])) k ↔ k (.d (.bool (decide (l = [])))) := eq_PT (m := [])
@[simp] theorem ne_PT0 : w2 .ne (.d (PT l)) (.d (.tuple [])) k ↔ k (.d (.bool (!decide (l = [])))) := ne_PT (m := [])
@[simp] theorem eq_Fr : w2 .eq (.d (Fr q)) (.d (Fr r)) k ↔ k (.d (.bool (decide (q = r)))) := by
  constructor
  · rintro ⟨_, _, h1, h2, h⟩
    cases h1
    cases h2
    obtain ⟨_, _, h⟩ := h
    rwa [eqv_Fr] at h
  · intro h
    exact ⟨_, _, rfl, rfl, shp_Fr _, shp_Fr _, by rw [eqv_Fr]; exact h⟩
@[simp] theorem ne_Fr : w2 .ne (.d (Fr q)) (.d (Fr r)) k ↔ k (.d (.bool (!decide (q = r)))) := by
  constructor
  · rintro ⟨_, _, h1, h2, h⟩
    cases h1
    cases h2
    obtain ⟨_, _, h⟩ := h
    rwa [eqv_Fr] at h
  · intro h
    exact ⟨_, _, rfl, rfl, shp_Fr _, shp_Fr _, by rw [eqv_Fr]; exact h⟩
@[simp] theorem len_PT : w1 .len (.d (PT l)) k ↔ k (.d (.int l.length)) := by
  unfold PT
  rw [len_t, PL_len]
@[simp] theorem fr_0 : w2 .idx (.d (Fr q)) (.d (.int 0)) k ↔ k (.d (.int q.num)) := idx0
@[simp] theorem fr_1 : w2 .idx (.d (Fr q)) (.d (.int 1)) k ↔ k (.d (.int q.den)) := idx1
end
/-- a comprehension's items, each by its source -/
theorem cmp_rel {tg : Tg} {e : List SV → KA → Prop} {ρ : List SV} {R : PyData → PyData → Prop} : ∀ {xs acc : List PyData} {k : List PyData → Prop}, (∀ x ∈ xs, ∃ ρ1, tgt tg x ρ = some ρ1 ∧ ∀ ka : KA, (∀ a y, a.emb? = some y → R x y → ka a) → e ρ1 ka) →
    acc.length + xs.length ≤ sizeLine → (∀ ys, ys.length = xs.length → (∀ (i : Nat) x y, xs[i]? = some x → ys[i]? = some y → R x y) → k (acc ++ ys)) → cmpW tg none e ρ xs acc k
  | [], acc, k, _, _, hk => by
    have := hk [] rfl (fun i x y h _ => by simp at h)
    rw [List.append_nil] at this
    exact this
  | x :: xs, acc, k, h, hz, hk => by
    obtain ⟨ρ1, h1, h2⟩ := h x (List.mem_cons_self ..)
    rw [List.length_cons] at hz
    refine ⟨ρ1, h1, h2 _ fun a y ha hy => ⟨y, ha, by omega, ?_⟩⟩
    refine cmp_rel (R := R) (fun z hz => h z (List.mem_cons_of_mem _ hz)) (by rw [List.length_append]; simp only [List.length_cons, List.length_nil]; omega) fun ys hl hp => ?_
    rw [List.append_assoc]
    exact hk (y :: ys) (by rw [List.length_cons, List.length_cons, hl]) fun i x' y' e1 e2 => by
      cases i with
      | zero =>
        cases e1
        cases e2
        exact hy
      | succ i => exact hp i x' y' (by simpa using e1) (by simpa using e2)
theorem choose_list {α : Type} {f : α → PyData} : ∀ {ys : List PyData} {Q : Nat → α → Prop}, (∀ (i : Nat) y, ys[i]? = some y → ∃ w, y = f w ∧ Q i w) → ∃ W : List α, ys = W.map f ∧ ∀ (i : Nat) w, W[i]? = some w → Q i w
  | [], Q, _ => ⟨[], rfl, fun i w h => by simp at h⟩
  | y :: ys, Q, h => by
    obtain ⟨w, rfl, hw⟩ := h 0 y rfl
    obtain ⟨W, rfl, hW⟩ := choose_list (ys := ys) (Q := fun i => Q (i + 1)) fun i y e => h (i + 1) y (by simpa using e)
    exact ⟨w :: W, rfl, fun i w' e => by
      cases i with
      | zero =>
        cases e
        exact hw
      | succ i => exact hW i w' (by simpa using e)⟩
end Un
end
section
/-! Un: a polynomial is told by its values. -/
namespace Un
open PySem Pg
theorem hor_zero (f : Rat) : ∀ {l : List Rat}, (∀ i, cf (hor f l) i = 0) → ∀ i, cf l i = 0
  | [], _, i => cf_nil
  | a :: l, h, i => by
    have ih := hor_zero f (l := l) fun i => by simpa [hor] using h (i + 1)
    cases i with
    | zero =>
      have h0 := h 0
      have h1 : (hor f l).headD 0 = 0 := by
        have := h 1
        rw [hor, cf_s] at this
        cases e : hor f l with
        | nil => rfl
        | cons v r => rw [e] at this; simpa using this
      rw [hor, cf_0, h1] at h0
      rw [cf_0]
      grind
    | succ i => simpa using ih i
/-- as many roots as items: it is nought -/
theorem roots_zero : ∀ (n : Nat) {l : List Rat} (m : Nat), l.length ≤ n → (∀ j : Nat, m ≤ j → j < m + n → evR l (j : Rat) = 0) → ∀ i, cf l i = 0
  | 0, l, m, hl, _, i => by
    have : l = [] := List.length_eq_zero_iff.mp (by omega)
    subst this
    exact cf_nil
  | n + 1, l, m, hl, h, i => by
    have hm : evR l ((m : Nat) : Rat) = 0 := h m (Nat.le_refl _) (by omega)
    refine hor_zero (m : Rat) (fun i => ?_) i
    have hq : ∀ i, cf (hor (m : Rat) l).tail i = 0 := roots_zero n (m + 1) (by rw [List.length_tail, hor_len]; omega) fun j h1 h2 => by
      obtain ⟨e1, e2⟩ := ev_hor (m : Rat) (j : Rat) l
      rw [e2, hm, h j (by omega) (by omega)] at e1
      have hne : ((j : Nat) : Rat) - (m : Rat) ≠ 0 := fun z => by
        have : ((j : Nat) : Rat) = (m : Rat) := by grind
        have := Rat.natCast_inj.mp this
        omega
      have e3 : ((j : Rat) - (m : Rat)) * evR (hor (m : Rat) l).tail (j : Rat) = 0 := by grind
      rcases Rat.mul_eq_zero.mp e3 with z | z
      · exact absurd z hne
      · exact z
    cases e : hor (m : Rat) l with
    | nil => exact cf_nil
    | cons v r =>
      rw [e] at hq
      cases i with
      | zero =>
        obtain ⟨_, e2⟩ := ev_hor (m : Rat) 0 l
        rw [e, hm] at e2
        simpa using e2
      | succ i => simpa using hq i
theorem cf_of_ev {l m : List Rat} (h : ∀ x, evR l x = evR m x) (i : Nat) : cf l i = cf m i := by
  have hz : ∀ i, cf (addL l (m.map (· * (-1)))) i = 0 := roots_zero _ 0 (Nat.le_refl _) fun j _ _ => by
    rw [ev_addL, ev_map, h]
    grind
  have := hz i
  rw [cf_addL, cf_map] at this
  grind
theorem eq_of_ev {l m : List Rat} (hl : trimR l = l) (hm : trimR m = m) (h : ∀ x, evR l x = evR m x) : l = m := eq_of_cf hl hm (cf_of_ev h)
theorem hor_last (f : Rat) : ∀ l : List Rat, (hor f l).getLast? = l.getLast?
  | [] => rfl
  | [a] => by
    show some (a + 0 * f) = some a
    rw [show a + 0 * f = a by grind]
  | a :: b :: l => by
    have ih := hor_last f (b :: l)
    rw [hor]
    have e : hor f (b :: l) = (b + (hor f l).headD 0 * f) :: hor f l := rfl
    rw [e] at ih ⊢
    rw [List.getLast?_cons_cons, List.getLast?_cons_cons]
    exact ih
theorem rows_last (f : Rat) (l : List Rat) : ∀ i, (shRows f l i).getLast? = l.getLast?
  | 0 => rfl
  | i + 1 => by
    rw [shRows, ← rows_last f l i]
    by_cases h : (shRows f l i).drop i = []
    · rw [h]
      have : (shRows f l i).length ≤ i := by simpa using h
      rw [List.take_of_length_le this]
      simp [hor]
    · have e : (shRows f l i).getLast? = ((shRows f l i).drop i).getLast? := by
        conv => lhs; rw [← List.take_append_drop i (shRows f l i)]
        rw [List.getLast?_append]
        cases q : ((shRows f l i).drop i).getLast? with
        | none => exact absurd (List.getLast?_eq_none_iff.mp q) h
        | some v => rfl
      rw [e, List.getLast?_append, hor_last]
      cases q : ((shRows f l i).drop i).getLast? with
      | none => exact absurd (List.getLast?_eq_none_iff.mp q) h
      | some v => rfl
theorem cf_last (l : List Rat) : cf l (l.length - 1) = l.getLast?.getD 0 := by
  unfold cf
  rw [List.getLast?_eq_getElem?, List.getD_eq_getElem?_getD]
theorem tr_sh {p : List Rat} (f : Rat) (h : trimR p = p) : trimR (shR p f) = shR p f := by
  refine trimmed_of ?_
  rw [cf_last, sh_len]
  rcases of_trimmed h with z | z
  · exact .inl z
  · right
    rw [cf_last] at z
    unfold shR
    rw [rows_last]
    exact z
theorem tr_nil : trimR [] = [] := rfl
/-- all bottoms together -/
def dens : List Rat → Nat
  | [] => 1
  | q :: l => q.den * dens l
theorem dens_pos : ∀ l : List Rat, 0 < dens l
  | [] => by decide
  | q :: l => Nat.mul_pos q.den_pos (dens_pos l)
theorem dens_lt {b : Nat} : ∀ {l : List Rat}, BdL b l → dens l ≤ 2 ^ (b * l.length)
  | [], _ => by simp [dens]
  | q :: l, h => by
    rw [dens, List.length_cons, Nat.mul_succ, Nat.add_comm, Nat.pow_add]
    exact Nat.mul_le_mul (Nat.le_of_lt h.head.2) (dens_lt h.tail)
theorem rp_dens {b : Nat} : ∀ {l : List Rat}, BdL b l → RpL (dens l) (2 ^ b * dens l) l
  | [], _ => fun _ h => nomatch h
  | q :: l, h => fun r hr => by
    have hb : 0 < 2 ^ b := Nat.pow_pos (by decide)
    rcases List.mem_cons.mp hr with rfl | hr
    · refine ((Rp.self r).lift (dens_pos l)).mono ?_
      rw [dens]
      have h1 := h.head.1
      have h2 : r.num.natAbs * dens l ≤ 2 ^ b * dens l := Nat.mul_le_mul_right _ (Nat.le_of_lt h1)
      have h3 : 2 ^ b * dens l ≤ 2 ^ b * (r.den * dens l) := Nat.mul_le_mul_left _ (Nat.le_mul_of_pos_left _ r.den_pos)
      exact Nat.le_trans h2 h3
    · have h1 := (rp_dens h.tail r hr).lift q.den_pos
      rw [dens, Nat.mul_comm q.den]
      refine h1.mono ?_
      rw [Nat.mul_assoc]
      exact Nat.le_refl _
theorem RpL.bd {N A b : Nat} {l : List Rat} (h : RpL N A l) (hN : N < 2 ^ b) (hA : A < 2 ^ b) : BdL b l := fun q hq => (h q hq).bd hN hA
theorem RpL.mono {N A B : Nat} {l : List Rat} (h : RpL N A l) (hB : A ≤ B) : RpL N B l := fun q hq => (h q hq).mono hB

theorem add_comm' (p q : List Rat) : addR p q = addR q p := by rw [addR, addR, addL_comm]
theorem mul_comm' (p q : List Rat) : mulR p q = mulR q p := eq_of_ev (tr_mul _ _) (tr_mul _ _) fun x => by
  rw [ev_mul, ev_mul]
  grind
theorem cv_top (q : List Rat) : ∀ {p : List Rat}, p ≠ [] → q ≠ [] → cv (p.length - 1 + (q.length - 1)) (cf p) (cf q) = cf p (p.length - 1) * cf q (q.length - 1)
  | [], h, _ => absurd rfl h
  | [a], _, hq => by
    rw [cv_cons]
    simp [cv_nil]
    grind
  | a :: b :: p, _, hq => by
    rw [cv_cons]
    have ih := cv_top q (p := b :: p) (by simp) hq
    have hl : 0 < q.length := List.length_pos_iff.mpr hq
    have e1 : (a :: b :: p).length - 1 + (q.length - 1) = ((b :: p).length - 1 + (q.length - 1)) + 1 := by simp; omega
    have z : cf q ((a :: b :: p).length - 1 + (q.length - 1)) = 0 := cf_end (by simp; omega)
    rw [z, e1, if_pos (by omega), Nat.add_sub_cancel, ih]
    have e2 : (a :: b :: p).length - 1 = ((b :: p).length - 1) + 1 := by simp
    rw [e2, cf_s]
    grind
theorem mul_len' {p q : List Rat} (hp : trimR p = p) (hq : trimR q = q) (p0 : p ≠ []) (q0 : q ≠ []) : (mulR p q).length = p.length + q.length - 1 := by
  have lp : 0 < p.length := List.length_pos_iff.mpr p0
  have lq : 0 < q.length := List.length_pos_iff.mpr q0
  have up : (mulR p q).length ≤ p.length + q.length - 1 := Nat.le_trans (trim_len _) (by rw [mulAcc_len, List.length_replicate]; exact Nat.le_refl _)
  refine Nat.le_antisymm up (Nat.le_of_not_lt fun h => ?_)
  have z : cf (mulR p q) (p.length - 1 + (q.length - 1)) = 0 := cf_end (by omega)
  rw [cf_mul, cv_top q p0 q0] at z
  have a1 := (of_trimmed hp).resolve_left (by omega)
  have a2 := (of_trimmed hq).resolve_left (by omega)
  exact mul_ne a1 a2 z
theorem mul_nil (q : List Rat) : mulR [] q = [] := by
  refine eq_of_cf (tr_mul _ _) rfl fun i => ?_
  rw [cf_mul, cv_nil, cf_nil]
theorem mul_nil' (q : List Rat) : mulR q [] = [] := by rw [mul_comm', mul_nil]
theorem sc_zero (p : List Rat) : scR p 0 = [] := trim_zero fun i => by
  rw [cf_map]
  grind
end Un
end
section
namespace Fa
open PySem Un Pg
abbrev F__law_draw : List SV → KA → KX → Prop := drawW
abbrev n__law_of : List Str := ["_law_source_here", "_law_row"]
def b__law_of : Sm := (.cons (.ret (.bin .idx (.var 1) (.call 0 [0, 1] (.cons (.var 0) (.cons (.un .len (.var 1)) .nil)) .nil))) .nil)
def fe__law_of : FE := fun f => match f with
  | 0 => F__law_draw
  | _ => fun _ _ _ => False
@[irreducible] def F__law_of : List SV → KA → KX → Prop := runF fe__law_of 2 2 b__law_of
abbrev n__law_divisor : List Str := ["_law_a", "_law_b"]
def b__law_divisor : Sm := (.cons (.whl (.bin .ne (.var 1) (.dat (.int 0))) (.cons (.par [0, 1] (.cons (.var 1) (.cons (.bin .mod (.un .int (.var 0)) (.var 1)) .nil))) .nil)) (.cons (.ret (.var 0)) .nil))
def fe__law_divisor : FE := fun _ _ _ _ => False
@[irreducible] def F__law_divisor : List SV → KA → KX → Prop := runF fe__law_divisor 2 2 b__law_divisor
abbrev n__law_is_fraction : List Str := ["_law_thing", "_law_own"]
def b__law_is_fraction : Sm := (.cons (.ifs (.bor (.bnot (.un .isTuple (.var 0))) (.bin .ne (.un .len (.var 0)) (.dat (.int 2)))) (.cons (.ret (.dat (.bool false))) .nil) .nil) (.cons (.ifs (.bin .ne (.cmp [1] (.dat (.int 1)) (.nm 1) (.var 0) (.bor (.un .isBool (.var 1)) (.bnot (.un .isInt (.var 1))))) (.lst .nil)) (.cons (.ret (.dat (.bool false))) .nil) .nil) (.cons (.ret (.band (.bin .gt (.bin .idx (.var 0) (.dat (.int 1))) (.dat (.int 0))) (.bin .eq (.call 28 [0, 1] (.cons (.un .abs (.bin .idx (.var 0) (.dat (.int 0)))) (.cons (.bin .idx (.var 0) (.dat (.int 1))) .nil)) .nil) (.dat (.int 1))))) .nil)))
def fe__law_is_fraction : FE := fun f => match f with
  | 28 => F__law_divisor
  | _ => fun _ _ _ => False
@[irreducible] def F__law_is_fraction : List SV → KA → KX → Prop := runF fe__law_is_fraction 1 2 b__law_is_fraction
abbrev n__law_lowest : List Str := ["_law_up", "_law_down", "_law_big", "_law_rest"]
def b__law_lowest : Sm := (.cons (.par [2, 3] (.cons (.un .abs (.var 0)) (.cons (.un .abs (.var 1)) .nil))) (.cons (.whl (.bin .ne (.var 3) (.dat (.int 0))) (.cons (.par [2, 3] (.cons (.var 3) (.cons (.bin .mod (.un .int (.var 2)) (.var 3)) .nil))) .nil)) (.cons (.set 2 (.ife (.bin .gt (.var 1) (.dat (.int 0))) (.var 2) (.un .neg (.var 2)))) (.cons (.ret (.tup (.cons (.bin .fdiv (.var 0) (.var 2)) (.cons (.bin .fdiv (.var 1) (.var 2)) .nil)))) .nil))))
def fe__law_lowest : FE := fun _ _ _ _ => False
@[irreducible] def F__law_lowest : List SV → KA → KX → Prop := runF fe__law_lowest 2 4 b__law_lowest
abbrev n__law_fraction : List Str := ["_law_source_here", "_law_most", "_law_down"]
def b__law_fraction : Sm := (.cons (.set 2 (.bin .add (.dat (.int 1)) (.call 0 [0, 1] (.cons (.var 0) (.cons (.call 13 [0, 1] (.cons (.var 0) (.cons (.lst (.cons (.dat (.int 1)) (.cons (.dat (.int 1)) (.cons (.dat (.int 3)) (.cons (.var 1) .nil))))) .nil)) .nil) .nil)) .nil))) (.cons (.ret (.call 14 [0, 1] (.cons (.bin .sub (.call 0 [0, 1] (.cons (.var 0) (.cons (.bin .add (.bin .mul (.dat (.int 2)) (.var 1)) (.dat (.int 1))) .nil)) .nil) (.var 1)) (.cons (.var 2) .nil)) .nil)) .nil))
def fe__law_fraction : FE := fun f => match f with
  | 0 => F__law_draw
  | 13 => F__law_of
  | 14 => F__law_lowest
  | _ => fun _ _ _ => False
@[irreducible] def F__law_fraction : List SV → KA → KX → Prop := runF fe__law_fraction 2 3 b__law_fraction
abbrev n__law_poly : List Str := ["_law_source_here", "_law_size", "_law_most", "_law_found", "_law_turn"]
def b__law_poly : Sm := (.cons (.set 3 (.cmp [4] (.ife (.bin .gt (.call 0 [0, 1] (.cons (.var 0) (.cons (.dat (.int 4)) .nil)) .nil) (.dat (.int 0))) (.call 17 [0, 1] (.cons (.var 0) (.cons (.var 2) .nil)) .nil) (.tup (.cons (.dat (.int 0)) (.cons (.dat (.int 1)) .nil)))) (.nm 4) (.rng1 (.var 1)) .no)) (.cons (.ifs (.band (.bin .gt (.var 1) (.dat (.int 0))) (.bin .eq (.bin .idx (.bin .idx (.var 3) (.un .neg (.dat (.int 1)))) (.dat (.int 0))) (.dat (.int 0)))) (.cons (.put 3 (.un .neg (.dat (.int 1))) (.call 14 [0, 1] (.cons (.bin .add (.dat (.int 1)) (.call 0 [0, 1] (.cons (.var 0) (.cons (.var 2) .nil)) .nil)) (.cons (.bin .add (.dat (.int 1)) (.call 0 [0, 1] (.cons (.var 0) (.cons (.var 2) .nil)) .nil)) .nil)) .nil)) .nil) .nil) (.cons (.ret (.un .tuple (.var 3))) .nil)))
def fe__law_poly : FE := fun f => match f with
  | 0 => F__law_draw
  | 17 => F__law_fraction
  | 14 => F__law_lowest
  | _ => fun _ _ _ => False
@[irreducible] def F__law_poly : List SV → KA → KX → Prop := runF fe__law_poly 3 5 b__law_poly
abbrev n__law_is_poly : List Str := ["_law_thing", "_law_own"]
def b__law_is_poly : Sm := (.cons (.ifs (.bor (.bnot (.un .isTuple (.var 0))) (.bin .ne (.cmp [1] (.dat (.int 1)) (.nm 1) (.var 0) (.bnot (.call 29 [0] (.cons (.var 1) .nil) .nil))) (.lst .nil))) (.cons (.ret (.dat (.bool false))) .nil) .nil) (.cons (.ret (.bor (.bin .eq (.var 0) (.tup .nil)) (.bin .ne (.bin .idx (.bin .idx (.var 0) (.un .neg (.dat (.int 1)))) (.dat (.int 0))) (.dat (.int 0))))) .nil))
def fe__law_is_poly : FE := fun f => match f with
  | 29 => F__law_is_fraction
  | _ => fun _ _ _ => False
@[irreducible] def F__law_is_poly : List SV → KA → KX → Prop := runF fe__law_is_poly 1 2 b__law_is_poly
def t1__law_of : Sm := .nil
def t0__law_of : Sm := .cons (.ret (.bin .idx (.var 1) (.call 0 [0, 1] (.cons (.var 0) (.cons (.un .len (.var 1)) .nil)) .nil))) t1__law_of
theorem bt__law_of : b__law_of = t0__law_of := rfl
def t2__law_divisor : Sm := .nil
def t1__law_divisor : Sm := .cons (.ret (.var 0)) t2__law_divisor
def t0__law_divisor : Sm := .cons (.whl (.bin .ne (.var 1) (.dat (.int 0))) (.cons (.par [0, 1] (.cons (.var 1) (.cons (.bin .mod (.un .int (.var 0)) (.var 1)) .nil))) .nil)) t1__law_divisor
theorem bt__law_divisor : b__law_divisor = t0__law_divisor := rfl
def t3__law_is_fraction : Sm := .nil
def t2__law_is_fraction : Sm := .cons (.ret (.band (.bin .gt (.bin .idx (.var 0) (.dat (.int 1))) (.dat (.int 0))) (.bin .eq (.call 28 [0, 1] (.cons (.un .abs (.bin .idx (.var 0) (.dat (.int 0)))) (.cons (.bin .idx (.var 0) (.dat (.int 1))) .nil)) .nil) (.dat (.int 1))))) t3__law_is_fraction
def t1__law_is_fraction : Sm := .cons (.ifs (.bin .ne (.cmp [1] (.dat (.int 1)) (.nm 1) (.var 0) (.bor (.un .isBool (.var 1)) (.bnot (.un .isInt (.var 1))))) (.lst .nil)) (.cons (.ret (.dat (.bool false))) .nil) .nil) t2__law_is_fraction
def t0__law_is_fraction : Sm := .cons (.ifs (.bor (.bnot (.un .isTuple (.var 0))) (.bin .ne (.un .len (.var 0)) (.dat (.int 2)))) (.cons (.ret (.dat (.bool false))) .nil) .nil) t1__law_is_fraction
theorem bt__law_is_fraction : b__law_is_fraction = t0__law_is_fraction := rfl
def t4__law_lowest : Sm := .nil
def t3__law_lowest : Sm := .cons (.ret (.tup (.cons (.bin .fdiv (.var 0) (.var 2)) (.cons (.bin .fdiv (.var 1) (.var 2)) .nil)))) t4__law_lowest
def t2__law_lowest : Sm := .cons (.set 2 (.ife (.bin .gt (.var 1) (.dat (.int 0))) (.var 2) (.un .neg (.var 2)))) t3__law_lowest
def t1__law_lowest : Sm := .cons (.whl (.bin .ne (.var 3) (.dat (.int 0))) (.cons (.par [2, 3] (.cons (.var 3) (.cons (.bin .mod (.un .int (.var 2)) (.var 3)) .nil))) .nil)) t2__law_lowest
def t0__law_lowest : Sm := .cons (.par [2, 3] (.cons (.un .abs (.var 0)) (.cons (.un .abs (.var 1)) .nil))) t1__law_lowest
theorem bt__law_lowest : b__law_lowest = t0__law_lowest := rfl
def t2__law_fraction : Sm := .nil
def t1__law_fraction : Sm := .cons (.ret (.call 14 [0, 1] (.cons (.bin .sub (.call 0 [0, 1] (.cons (.var 0) (.cons (.bin .add (.bin .mul (.dat (.int 2)) (.var 1)) (.dat (.int 1))) .nil)) .nil) (.var 1)) (.cons (.var 2) .nil)) .nil)) t2__law_fraction
def t0__law_fraction : Sm := .cons (.set 2 (.bin .add (.dat (.int 1)) (.call 0 [0, 1] (.cons (.var 0) (.cons (.call 13 [0, 1] (.cons (.var 0) (.cons (.lst (.cons (.dat (.int 1)) (.cons (.dat (.int 1)) (.cons (.dat (.int 3)) (.cons (.var 1) .nil))))) .nil)) .nil) .nil)) .nil))) t1__law_fraction
theorem bt__law_fraction : b__law_fraction = t0__law_fraction := rfl
def t3__law_poly : Sm := .nil
def t2__law_poly : Sm := .cons (.ret (.un .tuple (.var 3))) t3__law_poly
def t1__law_poly : Sm := .cons (.ifs (.band (.bin .gt (.var 1) (.dat (.int 0))) (.bin .eq (.bin .idx (.bin .idx (.var 3) (.un .neg (.dat (.int 1)))) (.dat (.int 0))) (.dat (.int 0)))) (.cons (.put 3 (.un .neg (.dat (.int 1))) (.call 14 [0, 1] (.cons (.bin .add (.dat (.int 1)) (.call 0 [0, 1] (.cons (.var 0) (.cons (.var 2) .nil)) .nil)) (.cons (.bin .add (.dat (.int 1)) (.call 0 [0, 1] (.cons (.var 0) (.cons (.var 2) .nil)) .nil)) .nil)) .nil)) .nil) .nil) t2__law_poly
def t0__law_poly : Sm := .cons (.set 3 (.cmp [4] (.ife (.bin .gt (.call 0 [0, 1] (.cons (.var 0) (.cons (.dat (.int 4)) .nil)) .nil) (.dat (.int 0))) (.call 17 [0, 1] (.cons (.var 0) (.cons (.var 2) .nil)) .nil) (.tup (.cons (.dat (.int 0)) (.cons (.dat (.int 1)) .nil)))) (.nm 4) (.rng1 (.var 1)) .no)) t1__law_poly
theorem bt__law_poly : b__law_poly = t0__law_poly := rfl
def t2__law_is_poly : Sm := .nil
def t1__law_is_poly : Sm := .cons (.ret (.bor (.bin .eq (.var 0) (.tup .nil)) (.bin .ne (.bin .idx (.bin .idx (.var 0) (.un .neg (.dat (.int 1)))) (.dat (.int 0))) (.dat (.int 0))))) t2__law_is_poly
def t0__law_is_poly : Sm := .cons (.ifs (.bor (.bnot (.un .isTuple (.var 0))) (.bin .ne (.cmp [1] (.dat (.int 1)) (.nm 1) (.var 0) (.bnot (.call 29 [0] (.cons (.var 1) .nil) .nil))) (.lst .nil))) (.cons (.ret (.dat (.bool false))) .nil) .nil) t1__law_is_poly
theorem bt__law_is_poly : b__law_is_poly = t0__law_is_poly := rfl
end Fa
end
section
/-! The common small defs of the laws k01 to k15. -/
namespace Fa
open PySem Un Pg
section
variable {k : KA} {x : KX}
theorem abs_nat (i : Int) : (if i < 0 then -i else i) = (i.natAbs : Int) := by split <;> omega
theorem euclid {fe : FE} {kf : KF} {u v : SV} : ∀ (n r b : Nat), r < n → kf (.nx [u, v, .d (.int (Nat.gcd b r : Nat)), .d (.int 0)]) →
    whlW (ev fe x (.bin .ne (.var 3) (.dat (.int 0)))).t (ex fe x (.cons (.par [2, 3] (.cons (.var 3) (.cons (.bin .mod (.un .int (.var 2)) (.var 3)) .nil))) .nil)) n [u, v, .d (.int b), .d (.int r)] kf
  | 0, r, b, h, _ => absurd h (Nat.not_lt_zero r)
  | n + 1, r, b, h, hk => by
    rw [whl_step]
    simp
    by_cases hr : r = 0
    · subst hr
      simpa using hk
    · rw [if_neg hr]
      refine ⟨by omega, ?_⟩
      have e : (b : Int).fmod r = ((b % r : Nat) : Int) := by rw [Int.fmod_eq_emod_of_nonneg _ (by omega)]; exact (Int.natCast_emod _ _).symm
      rw [e]
      refine euclid n (b % r) r ?_ ?_
      · have := Nat.mod_lt b (show 0 < r by omega)
        omega
      · have e2 : Nat.gcd r (b % r) = Nat.gcd b r := by rw [Nat.gcd_comm b r, Nat.gcd_rec r b, Nat.gcd_comm]
        rw [e2]
        exact hk
theorem low_ok {t b : Int} {m : Nat} (hb : b ≠ 0) (hm : b.natAbs < 2 ^ m) (h9 : m < 9000) (hk : k (.d (Fr (Rat.divInt t b)))) : F__law_lowest [.d (.int t), .d (.int b)] k x := by
  simp [F__law_lowest, runF, b__law_lowest]
  rw [abs_nat, abs_nat]
  refine ⟨b.natAbs + 1, euclid _ _ _ (Nat.lt_succ_self _) ?_⟩
  simp
  have hp : 0 < Nat.gcd t.natAbs b.natAbs := Nat.gcd_pos_of_pos_right _ (by omega)
  have hl := gcd_lt (t := t) hm hb
  have hq := low_parts t b hb _ rfl
  unfold Fr at hk
  by_cases hn : b < 0
  · rw [if_pos hn] at hq
    rw [if_neg (by omega)]
    rw [hq.1, hq.2]
    exact ⟨div_ok (by omega) (by simpa using hl) h9, by decide, hk⟩
  · rw [if_neg hn] at hq
    rw [if_pos (by omega)]
    rw [hq.1, hq.2]
    exact ⟨div_ok (by omega) (by simpa using hl) h9, by decide, hk⟩
theorem draw_ok {n : Int} (h0 : 0 < n) (h1 : n < 1000000) (hk : ∀ r, 0 ≤ r → r < n → k (.d (.int r))) : drawW [.src, .d (.int n)] k x :=
  ⟨n, rfl, h0, by
    have : n.natAbs < 2 ^ 20 := by omega
    have := log_lt this (by decide)
    omega, hk⟩
theorem of_ok {xs : List PyData} (h0 : xs ≠ []) (h1 : xs.length ≤ 1000) (hk : ∀ y ∈ xs, k (.d y)) : F__law_of [.src, .d (.list xs)] k x := by
  simp [F__law_of, runF, b__law_of, fe__law_of]
  have hl : 0 < xs.length := List.length_pos_iff.mpr h0
  refine draw_ok (by omega) (by omega) fun r hr0 hr1 => ?_
  obtain ⟨i, rfl⟩ : ∃ i : Nat, r = i := ⟨r.toNat, by omega⟩
  have hi : i < xs.length := by omega
  have hg : xs[i]? = some xs[i] := List.getElem?_eq_getElem hi
  refine idx_l hg ?_
  simp
  exact hk _ (List.getElem_mem hi)
theorem fraction_ok (hk : ∀ q, Bd 4 q → k (.d (Fr q))) : F__law_fraction [.src, .d (.int 12)] k x := by
  simp [F__law_fraction, runF, b__law_fraction, fe__law_fraction]
  refine ⟨by decide, of_ok (by simp) (by simp) fun y hy => ?_⟩
  obtain ⟨n, rfl, h0, h1⟩ : ∃ n : Int, y = .int n ∧ 0 < n ∧ n ≤ 12 := by
    simp at hy
    rcases hy with rfl | rfl | rfl
    · exact ⟨_, rfl, by decide, by decide⟩
    · exact ⟨_, rfl, by decide, by decide⟩
    · exact ⟨_, rfl, by decide, by decide⟩
  simp [fe__law_fraction]
  refine draw_ok h0 (by omega) fun r hr0 hr1 => ?_
  simp [fe__law_fraction]
  refine ⟨.inl (by decide), draw_ok (by decide) (by decide) fun s h2 h3 => ?_⟩
  simp [fe__law_fraction]
  have hb : Bd 4 (Rat.divInt (s - 12) (1 + r)) := low_bd (by omega) (by omega) (by omega)
  exact low_ok (m := 4) (by omega) (by omega) (by decide) (hk _ hb)
theorem poly_ok {n : Nat} (hn : n ≤ 100) (hk : ∀ l : List Rat, l.length = n → BdL 4 l → trimR l = l → k (.d (PT l))) : F__law_poly [.src, .d (.int n), .d (.int 12)] k x := by
  simp [F__law_poly, runF, b__law_poly, RngOk, isNo, wipeS]
  refine ⟨by omega, ?_⟩
  refine cmp_all (P := fun y => ∃ q, Bd 4 q ∧ y = Fr q) (fun y hy => ⟨_, rfl, fun ka h => ?_⟩) (by simpa [rngL] using sz n (by omega)) fun ys hl hp => ?_
  · simp [fe__law_poly]
    refine draw_ok (by decide) (by decide) fun r hr0 hr1 => ?_
    simp
    by_cases h0 : 0 < r
    · rw [if_pos h0]
      exact fraction_ok fun q hq => h _ ⟨q, hq, rfl⟩
    · rw [if_neg h0]
      exact ⟨by decide, h _ ⟨0, bd0.mono (by omega), rfl⟩⟩
  · obtain ⟨l, rfl, hl4⟩ := list_Fr hp
    have hln : l.length = n := by rw [PL_len] at hl; simpa [rngL] using hl
    rw [List.nil_append]
    by_cases h0 : 0 < n
    · rw [if_pos h0]
      obtain ⟨m, c, rfl⟩ : ∃ m c, l = m ++ [c] := by
        rcases List.eq_nil_or_concat l with rfl | ⟨m, c, h⟩
        · simp at hln
          omega
        · exact ⟨m, c, by simpa using h⟩
      rw [← PL_snoc]
      refine idx_last ?_
      simp [Fr]
      by_cases hc : c = 0
      · subst hc
        rw [if_pos rfl, show fe__law_poly 0 = drawW from rfl]
        refine draw_ok (n := 12) (by decide) (by decide) fun r hr0 hr1 => ?_
        simp
        refine draw_ok (n := 12) (by decide) (by decide) fun s hs0 hs1 => ?_
        simp [fe__law_poly]
        refine low_ok (m := 4) (by omega) (by omega) (by decide) ?_
        simp
        rw [PL_len, ix_last]
        refine ⟨_, rfl, ?_⟩
        have e : (PL m ++ [PyData.tuple [.int 0, .int 1]]).set m.length (Fr (Rat.divInt (1 + r) (1 + s))) = PL (m ++ [Rat.divInt (1 + r) (1 + s)]) := by
          rw [List.set_append_right _ _ (by rw [PL_len]; exact Nat.le_refl _), PL_len, Nat.sub_self]
          simp [PL]
        rw [e]
        have hb : Bd 4 (Rat.divInt (1 + r) (1 + s)) := low_bd (by omega) (by omega) (by omega)
        refine hk _ (by simpa using hln) (fun q hq => ?_) (trimR_snoc (divInt_ne (by omega) (by omega)) m)
        rcases List.mem_append.mp hq with h | h
        · exact hl4 q (List.mem_append_left _ h)
        · rw [List.mem_singleton.mp h]
          exact hb
      · rw [if_neg hc]
        have := hk _ hln hl4 (trimR_snoc hc m)
        rw [PT, ← PL_snoc] at this
        exact this
    · rw [if_neg h0]
      have e : l = [] := List.length_eq_zero_iff.mp (by omega)
      subst e
      exact hk [] hln hl4 rfl

theorem divisor_ok {a b : Nat} (hk : k (.d (.int (Nat.gcd a b : Nat)))) : F__law_divisor [.d (.int a), .d (.int b)] k x := by
  have eu : ∀ (n r b : Nat), r < n → ∀ kf : KF, kf (.nx [.d (.int (Nat.gcd b r : Nat)), .d (.int 0)]) →
      whlW (ev fe__law_divisor x (.bin .ne (.var 1) (.dat (.int 0)))).t (ex fe__law_divisor x (.cons (.par [0, 1] (.cons (.var 1) (.cons (.bin .mod (.un .int (.var 0)) (.var 1)) .nil))) .nil)) n [.d (.int b), .d (.int r)] kf := by
    intro n
    induction n with
    | zero => intro r b h; exact absurd h (Nat.not_lt_zero r)
    | succ n ih =>
      intro r b h kf hk
      rw [whl_step]
      simp
      by_cases hr : r = 0
      · subst hr
        simpa using hk
      · rw [if_neg hr]
        refine ⟨by omega, ?_⟩
        have e : (b : Int).fmod r = ((b % r : Nat) : Int) := by rw [Int.fmod_eq_emod_of_nonneg _ (by omega)]; exact (Int.natCast_emod _ _).symm
        rw [e]
        refine ih (b % r) r ?_ kf ?_
        · have := Nat.mod_lt b (show 0 < r by omega)
          omega
        · have e2 : Nat.gcd r (b % r) = Nat.gcd b r := by rw [Nat.gcd_comm b r, Nat.gcd_rec r b, Nat.gcd_comm]
          rw [e2]
          exact hk
  simp [F__law_divisor, runF, b__law_divisor]
  refine ⟨b + 1, eu _ _ _ (Nat.lt_succ_self _) _ ?_⟩
  simpa using hk
theorem shp_nilL : shp (.list []) := by simp [shp, SeqAt.shaped, PyData.canLay0, PyData.canLayAll0, PyData.depth, PyData.depthAll]
theorem isfr_ok {q : Rat} (hk : k (.d (.bool true))) : F__law_is_fraction [.d (Fr q)] k x := by
  have hd := q.den_pos
  have hg : Nat.gcd q.num.natAbs q.den = 1 := q.reduced
  unfold Fr
  generalize q.num = n at *
  generalize q.den = d at *
  simp [F__law_is_fraction, runF, b__law_is_fraction, fe__law_is_fraction, isNo, wipeS, cmpW, tgt]
  refine w2_intro (x := .list []) (y := .list []) ⟨shp_nilL, shp_nilL, ?_⟩ rfl rfl
  simp [PyData.eqv, PyData.eqvAll]
  refine .inr ⟨hd, ?_⟩
  rw [abs_nat]
  refine divisor_ok ?_
  simp
  rw [hg]
  simpa using hk
theorem last_ne : ∀ {l : List Rat}, trimR l = l → l ≠ [] → ∃ m c, l = m ++ [c] ∧ c ≠ 0 := fun {l} h h0 => by
  rcases List.eq_nil_or_concat l with rfl | ⟨m, c, e⟩
  · exact absurd rfl h0
  · refine ⟨m, c, by simpa using e, fun hc => ?_⟩
    subst hc
    have e : l = m ++ [0] := by simpa using e
    subst e
    rw [trimR_snoc0] at h
    have h1 := trim_len m
    have h2 := congrArg List.length h
    simp at h2
    omega
theorem cmp_none {tg : Tg} {t : List SV → (Bool → Prop) → Prop} {e : List SV → KA → Prop} {ρ : List SV} {k : List PyData → Prop} : ∀ {xs : List PyData}, (∀ x ∈ xs, ∃ ρ1, tgt tg x ρ = some ρ1 ∧ ∀ kt : Bool → Prop, kt false → t ρ1 kt) → k [] → cmpW tg (some t) e ρ xs [] k
  | [], _, hk => hk
  | x :: xs, h, hk => by
    obtain ⟨ρ1, h1, h2⟩ := h x (List.mem_cons_self ..)
    refine ⟨ρ1, h1, h2 _ ?_⟩
    rw [if_neg (by decide)]
    exact cmp_none (fun y hy => h y (List.mem_cons_of_mem _ hy)) hk
theorem ispoly_ok {l : List Rat} (h : trimR l = l) (hk : k (.d (.bool true))) : F__law_is_poly [.d (PT l)] k x := by
  simp [F__law_is_poly, runF, b__law_is_poly, fe__law_is_poly, PT, isNo, wipeS]
  refine cmp_none (fun y hy => ⟨_, rfl, fun kt hkt => ?_⟩) ?_
  · unfold PL at hy
    obtain ⟨q, _, rfl⟩ := List.mem_map.mp hy
    simp
    exact isfr_ok (by simpa using hkt)
  · refine w2_intro (x := .list []) (y := .list []) ⟨shp_nilL, shp_nilL, ?_⟩ rfl rfl
    simp [PyData.eqv, PyData.eqvAll]
    refine w2_intro (x := PT l) (y := PT []) ⟨shp_PT _, shp_PT _, ?_⟩ rfl rfl
    rw [eqv_PT]
    simp
    by_cases h0 : l = []
    · exact .inr ⟨h0, hk⟩
    · refine .inl ⟨h0, ?_⟩
      obtain ⟨m, c, rfl, hc⟩ := last_ne h h0
      rw [← PL_snoc]
      refine idx_lastT ?_
      simp [Fr, hc]
      exact hk
end
end Fa
end
section
namespace Lk03
open PySem Un Pg Fa
abbrev n__law_value : List Str := ["_law_poly_here", "_law_spot", "_law_up", "_law_down", "_law_a", "_law_b"]
def b__law_value : Sm := (.cons (.par [2, 3] (.cons (.dat (.int 0)) (.cons (.dat (.int 1)) .nil))) (.cons (.loop (.tp [4, 5]) (.rvd (.un .list (.var 0))) (.cons (.par [2, 3] (.cons (.bin .add (.bin .mul (.bin .mul (.var 2) (.bin .idx (.var 1) (.dat (.int 0)))) (.var 5)) (.bin .mul (.bin .mul (.var 4) (.var 3)) (.bin .idx (.var 1) (.dat (.int 1))))) (.cons (.bin .mul (.bin .mul (.var 3) (.bin .idx (.var 1) (.dat (.int 1)))) (.var 5)) .nil))) .nil)) (.cons (.ret (.tup (.cons (.var 2) (.cons (.var 3) .nil)))) .nil)))
def fe__law_value : FE := fun _ _ _ _ => False
@[irreducible] def F__law_value : List SV → KA → KX → Prop := runF fe__law_value 2 6 b__law_value
abbrev n__law_spots : List Str := ["_law_source_here", "_law_many", "_law_start", "_law_down", "_law_turn"]
def b__law_spots : Sm := (.cons (.par [2, 3] (.cons (.bin .sub (.call 0 [0, 1] (.cons (.var 0) (.cons (.dat (.int 13)) .nil)) .nil) (.dat (.int 9))) (.cons (.call 13 [0, 1] (.cons (.var 0) (.cons (.lst (.cons (.dat (.int 1)) (.cons (.dat (.int 1)) (.cons (.dat (.int 2)) (.cons (.dat (.int 3)) .nil))))) .nil)) .nil) .nil))) (.cons (.ret (.cmp [4] (.call 14 [0, 1] (.cons (.bin .add (.var 2) (.var 4)) (.cons (.var 3) .nil)) .nil) (.nm 4) (.rng1 (.var 1)) .no)) .nil))
def fe__law_spots : FE := fun f => match f with
  | 0 => F__law_draw
  | 13 => F__law_of
  | 14 => F__law_lowest
  | _ => fun _ _ _ => False
@[irreducible] def F__law_spots : List SV → KA → KX → Prop := runF fe__law_spots 2 5 b__law_spots
abbrev n__law_is_made : List Str := ["_law_found", "_law_size", "_law_spots_here", "_law_dues", "_law_spot", "_law_due", "_law_up", "_law_down"]
def b__law_is_made : Sm := (.cons (.ifs (.bor (.bnot (.call 30 [0] (.cons (.var 0) .nil) .nil)) (.bin .gt (.un .len (.var 0)) (.var 1))) (.cons (.ret (.dat (.bool false))) .nil) .nil) (.cons (.loop (.tp [4, 5]) (.zip2 (.var 2) (.var 3)) (.cons (.unp [6, 7] (.call 20 [0, 1] (.cons (.var 0) (.cons (.var 4) .nil)) .nil)) (.cons (.ifs (.bin .ne (.bin .mul (.var 6) (.bin .idx (.var 5) (.dat (.int 1)))) (.bin .mul (.bin .idx (.var 5) (.dat (.int 0))) (.var 7))) (.cons (.ret (.dat (.bool false))) .nil) .nil) .nil))) (.cons (.ret (.dat (.bool true))) .nil)))
def fe__law_is_made : FE := fun f => match f with
  | 30 => F__law_is_poly
  | 20 => F__law_value
  | _ => fun _ _ _ => False
@[irreducible] def F__law_is_made : List SV → KA → KX → Prop := runF fe__law_is_made 4 8 b__law_is_made
abbrev n__law_mate : List Str := ["_law_source_here", "_law_poly_here", "_law_size", "_law_start", "_law_begin", "_law_turn", "_law_up", "_law_down"]
def b__law_mate : Sm := (.cons (.ifs (.bor (.bin .eq (.var 1) (.tup .nil)) (.bin .eq (.call 0 [0, 1] (.cons (.var 0) (.cons (.dat (.int 3)) .nil)) .nil) (.dat (.int 0)))) (.cons (.ret (.call 18 [0, 1, 2] (.cons (.var 0) (.cons (.var 2) (.cons (.dat (.int 12)) .nil))) .nil)) .nil) .nil) (.cons (.set 3 (.call 0 [0, 1] (.cons (.var 0) (.cons (.un .len (.var 1)) .nil)) .nil)) (.cons (.set 4 (.cmp [5] (.call 17 [0, 1] (.cons (.var 0) (.cons (.dat (.int 12)) .nil)) .nil) (.nm 5) (.rng1 (.var 3)) .no)) (.cons (.frz 4) (.cons (.ret (.un .tuple (.bin .add (.var 4) (.cmp [6, 7] (.tup (.cons (.un .neg (.var 6)) (.cons (.var 7) .nil))) (.tp [6, 7]) (.slc (.var 1) (.var 3) .no) .no)))) .nil)))))
def fe__law_mate : FE := fun f => match f with
  | 0 => F__law_draw
  | 18 => F__law_poly
  | 17 => F__law_fraction
  | _ => fun _ _ _ => False
@[irreducible] def F__law_mate : List SV → KA → KX → Prop := runF fe__law_mate 3 8 b__law_mate
abbrev n__law_is_sum : List Str := ["_law_source_here", "_law_poly_here", "_law_mate_here", "_law_size", "_law_spots_here", "_law_pairs", "_law_dues", "_law_found", "_law_spot", "_law_a", "_law_b"]
def b__law_is_sum : Sm := (.cons (.set 3 (.max3 (.dat (.int 0)) (.un .len (.var 1)) (.un .len (.var 2)))) (.cons (.set 4 (.call 31 [0, 1] (.cons (.var 0) (.cons (.bin .add (.var 3) (.dat (.int 1))) .nil)) .nil)) (.cons (.frz 4) (.cons (.set 5 (.cmp [8] (.lst (.cons (.call 20 [0, 1] (.cons (.var 1) (.cons (.var 8) .nil)) .nil) (.cons (.call 20 [0, 1] (.cons (.var 2) (.cons (.var 8) .nil)) .nil) .nil))) (.nm 8) (.var 4) .no)) (.cons (.frz 5) (.cons (.set 6 (.cmp [9, 10] (.tup (.cons (.bin .add (.bin .mul (.bin .idx (.var 9) (.dat (.int 0))) (.bin .idx (.var 10) (.dat (.int 1)))) (.bin .mul (.bin .idx (.var 10) (.dat (.int 0))) (.bin .idx (.var 9) (.dat (.int 1))))) (.cons (.bin .mul (.bin .idx (.var 9) (.dat (.int 1))) (.bin .idx (.var 10) (.dat (.int 1)))) .nil))) (.tp [9, 10]) (.var 5) .no)) (.cons (.frz 6) (.cons (.ifs (.bor (.bnot (.call 32 [0, 1, 2, 3] (.cons (.call 6 [0, 1] (.cons (.var 1) (.cons (.var 2) .nil)) .nil) (.cons (.var 3) (.cons (.var 4) (.cons (.var 6) .nil)))) .nil)) (.bin .ne (.call 6 [1, 0] .nil (.cons (.var 1) (.cons (.var 2) .nil))) (.call 6 [0, 1] (.cons (.var 1) (.cons (.var 2) .nil)) .nil))) (.cons (.ret (.dat (.bool false))) .nil) .nil) (.cons (.set 3 (.ife (.bor (.bin .eq (.var 1) (.tup .nil)) (.bin .eq (.var 2) (.tup .nil))) (.dat (.int 0)) (.bin .sub (.bin .add (.un .len (.var 1)) (.un .len (.var 2))) (.dat (.int 1))))) (.cons (.set 4 (.call 31 [0, 1] (.cons (.var 0) (.cons (.bin .add (.var 3) (.dat (.int 1))) .nil)) .nil)) (.cons (.frz 4) (.cons (.set 5 (.cmp [8] (.lst (.cons (.call 20 [0, 1] (.cons (.var 1) (.cons (.var 8) .nil)) .nil) (.cons (.call 20 [0, 1] (.cons (.var 2) (.cons (.var 8) .nil)) .nil) .nil))) (.nm 8) (.var 4) .no)) (.cons (.frz 5) (.cons (.set 7 (.call 7 [1, 0] .nil (.cons (.var 2) (.cons (.var 1) .nil)))) (.cons (.ifs (.bor (.bnot (.call 32 [0, 1, 2, 3] (.cons (.var 7) (.cons (.var 3) (.cons (.var 4) (.cons (.cmp [9, 10] (.tup (.cons (.bin .mul (.bin .idx (.var 9) (.dat (.int 0))) (.bin .idx (.var 10) (.dat (.int 0)))) (.cons (.bin .mul (.bin .idx (.var 9) (.dat (.int 1))) (.bin .idx (.var 10) (.dat (.int 1)))) .nil))) (.tp [9, 10]) (.var 5) .no) .nil)))) .nil)) (.bin .ne (.un .len (.var 7)) (.var 3))) (.cons (.ret (.dat (.bool false))) .nil) .nil) (.cons (.ret (.bin .eq (.un .repr (.call 7 [0, 1] (.cons (.var 2) (.cons (.var 1) .nil)) .nil)) (.un .repr (.var 7)))) .nil))))))))))))))))
def fe__law_is_sum : FE := fun f => match f with
  | 31 => F__law_spots
  | 20 => F__law_value
  | 32 => F__law_is_made
  | 6 => F_added
  | 7 => F_multiplied
  | _ => fun _ _ _ => False
@[irreducible] def F__law_is_sum : List SV → KA → KX → Prop := runF fe__law_is_sum 3 11 b__law_is_sum
abbrev n__law_is_scaled : List Str := ["_law_source_here", "_law_poly_here", "_law_by", "_law_spots_here", "_law_values", "_law_size", "_law_found", "_law_told", "_law_spot", "_law_up", "_law_down"]
def b__law_is_scaled : Sm := (.cons (.set 3 (.call 31 [0, 1] (.cons (.var 0) (.cons (.bin .add (.un .len (.var 1)) (.dat (.int 1))) .nil)) .nil)) (.cons (.frz 3) (.cons (.set 4 (.cmp [8] (.call 20 [0, 1] (.cons (.var 1) (.cons (.var 8) .nil)) .nil) (.nm 8) (.var 3) .no)) (.cons (.frz 4) (.cons (.set 5 (.ife (.bin .eq (.bin .idx (.var 2) (.dat (.int 0))) (.dat (.int 0))) (.dat (.int 0)) (.un .len (.var 1)))) (.cons (.ifs (.bnot (.call 32 [0, 1, 2, 3] (.cons (.call 8 [0, 1] (.cons (.var 1) (.cons (.var 2) .nil)) .nil) (.cons (.var 5) (.cons (.var 3) (.cons (.cmp [9, 10] (.tup (.cons (.bin .mul (.bin .idx (.var 2) (.dat (.int 0))) (.var 9)) (.cons (.bin .mul (.bin .idx (.var 2) (.dat (.int 1))) (.var 10)) .nil))) (.tp [9, 10]) (.var 4) .no) .nil)))) .nil)) (.cons (.ret (.dat (.bool false))) .nil) .nil) (.cons (.set 4 (.cmp [9, 10] (.call 20 [0, 1] (.cons (.var 1) (.cons (.tup (.cons (.bin .add (.bin .mul (.var 9) (.bin .idx (.var 2) (.dat (.int 1)))) (.bin .mul (.bin .idx (.var 2) (.dat (.int 0))) (.var 10))) (.cons (.bin .mul (.var 10) (.bin .idx (.var 2) (.dat (.int 1)))) .nil))) .nil)) .nil) (.tp [9, 10]) (.var 3) .no)) (.cons (.frz 4) (.cons (.set 6 (.call 11 [0, 1] (.cons (.var 1) (.cons (.var 2) .nil)) .nil)) (.cons (.ifs (.bor (.bnot (.call 32 [0, 1, 2, 3] (.cons (.var 6) (.cons (.un .len (.var 1)) (.cons (.var 3) (.cons (.var 4) .nil)))) .nil)) (.bin .ne (.un .len (.var 6)) (.un .len (.var 1)))) (.cons (.ret (.dat (.bool false))) .nil) .nil) (.cons (.set 4 (.cmp [9, 10] (.call 20 [0, 1] (.cons (.var 1) (.cons (.tup (.cons (.bin .mul (.var 9) (.bin .idx (.var 2) (.dat (.int 0)))) (.cons (.bin .mul (.var 10) (.bin .idx (.var 2) (.dat (.int 1)))) .nil))) .nil)) .nil) (.tp [9, 10]) (.var 3) .no)) (.cons (.frz 4) (.cons (.set 6 (.call 12 [0, 1] (.cons (.var 1) (.cons (.var 2) .nil)) .nil)) (.cons (.ifs (.bnot (.call 32 [0, 1, 2, 3] (.cons (.var 6) (.cons (.ife (.bin .ne (.bin .idx (.var 2) (.dat (.int 0))) (.dat (.int 0))) (.un .len (.var 1)) (.dat (.int 1))) (.cons (.var 3) (.cons (.var 4) .nil)))) .nil)) (.cons (.ret (.dat (.bool false))) .nil) .nil) (.cons (.set 7 (.lst (.cons (.call 8 [1, 0] .nil (.cons (.var 2) (.cons (.var 1) .nil))) (.cons (.call 11 [1, 0] .nil (.cons (.var 2) (.cons (.var 1) .nil))) (.cons (.call 12 [1, 0] .nil (.cons (.var 2) (.cons (.var 1) .nil))) .nil))))) (.cons (.frz 7) (.cons (.ret (.bin .eq (.un .repr (.var 7)) (.un .repr (.lst (.cons (.call 8 [0, 1] (.cons (.var 1) (.cons (.var 2) .nil)) .nil) (.cons (.call 11 [0, 1] (.cons (.var 1) (.cons (.var 2) .nil)) .nil) (.cons (.var 6) .nil))))))) .nil)))))))))))))))))
def fe__law_is_scaled : FE := fun f => match f with
  | 31 => F__law_spots
  | 20 => F__law_value
  | 32 => F__law_is_made
  | 8 => F_scaled
  | 11 => F_shifted
  | 12 => F_stretched
  | _ => fun _ _ _ => False
@[irreducible] def F__law_is_scaled : List SV → KA → KX → Prop := runF fe__law_is_scaled 3 11 b__law_is_scaled
abbrev n__law_is_back : List Str := ["_law_poly_here", "_law_mate_here", "_law_by", "_law_turned", "_law_told", "_law_due", "_law_over"]
def b__law_is_back : Sm := (.cons (.set 3 (.tup (.cons (.un .neg (.bin .idx (.var 2) (.dat (.int 0)))) (.cons (.bin .idx (.var 2) (.dat (.int 1))) .nil)))) (.cons (.set 4 (.lst (.cons (.call 11 [0, 1] (.cons (.call 11 [0, 1] (.cons (.var 0) (.cons (.var 2) .nil)) .nil) (.cons (.var 3) .nil)) .nil) (.cons (.call 6 [0, 1] (.cons (.var 0) (.cons (.call 8 [0, 1] (.cons (.var 0) (.cons (.tup (.cons (.un .neg (.dat (.int 1))) (.cons (.dat (.int 1)) .nil))) .nil)) .nil) .nil)) .nil) (.cons (.call 6 [0, 1] (.cons (.call 6 [0, 1] (.cons (.var 0) (.cons (.var 1) .nil)) .nil) (.cons (.var 0) .nil)) .nil) .nil))))) (.cons (.set 5 (.lst (.cons (.var 0) (.cons (.tup .nil) (.cons (.call 6 [0, 1] (.cons (.call 8 [0, 1] (.cons (.var 0) (.cons (.tup (.cons (.dat (.int 2)) (.cons (.dat (.int 1)) .nil))) .nil)) .nil) (.cons (.var 1) .nil)) .nil) .nil))))) (.cons (.app 4 (.call 7 [0, 1] (.cons (.var 0) (.cons (.call 6 [0, 1] (.cons (.var 1) (.cons (.ife (.bin .ne (.bin .idx (.var 2) (.dat (.int 0))) (.dat (.int 0))) (.tup (.cons (.tup (.cons (.dat (.int 1)) (.cons (.dat (.int 1)) .nil))) (.cons (.var 2) .nil))) (.tup (.cons (.tup (.cons (.dat (.int 1)) (.cons (.dat (.int 1)) .nil))) .nil))) .nil)) .nil) .nil)) .nil)) (.cons (.app 5 (.call 6 [0, 1] (.cons (.call 7 [0, 1] (.cons (.var 1) (.cons (.var 0) .nil)) .nil) (.cons (.call 6 [0, 1] (.cons (.var 0) (.cons (.ife (.bin .ne (.bin .idx (.var 2) (.dat (.int 0))) (.dat (.int 0))) (.call 7 [0, 1] (.cons (.tup (.cons (.tup (.cons (.dat (.int 0)) (.cons (.dat (.int 1)) .nil))) (.cons (.var 2) .nil))) (.cons (.var 0) .nil)) .nil) (.tup .nil)) .nil)) .nil) .nil)) .nil)) (.cons (.set 4 (.bin .add (.var 4) (.lst (.cons (.call 11 [0, 1] (.cons (.call 6 [0, 1] (.cons (.var 0) (.cons (.var 1) .nil)) .nil) (.cons (.var 2) .nil)) .nil) (.cons (.call 12 [0, 1] (.cons (.call 6 [0, 1] (.cons (.var 0) (.cons (.var 1) .nil)) .nil) (.cons (.var 2) .nil)) .nil) .nil))))) (.cons (.set 4 (.bin .add (.var 4) (.lst (.cons (.call 6 [0, 1] (.cons (.var 0) (.cons (.tup .nil) .nil)) .nil) (.cons (.call 8 [0, 1] (.cons (.var 0) (.cons (.tup (.cons (.dat (.int 0)) (.cons (.dat (.int 1)) .nil))) .nil)) .nil) .nil))))) (.cons (.set 5 (.bin .add (.var 5) (.lst (.cons (.call 6 [0, 1] (.cons (.call 11 [0, 1] (.cons (.var 0) (.cons (.var 2) .nil)) .nil) (.cons (.call 11 [0, 1] (.cons (.var 1) (.cons (.var 2) .nil)) .nil) .nil)) .nil) (.cons (.call 6 [0, 1] (.cons (.call 12 [0, 1] (.cons (.var 0) (.cons (.var 2) .nil)) .nil) (.cons (.call 12 [0, 1] (.cons (.var 1) (.cons (.var 2) .nil)) .nil) .nil)) .nil) (.cons (.var 0) (.cons (.tup .nil) .nil))))))) (.cons (.ifs (.bin .ne (.bin .idx (.var 2) (.dat (.int 0))) (.dat (.int 0))) (.cons (.set 6 (.call 14 [0, 1] (.cons (.bin .idx (.var 2) (.dat (.int 1))) (.cons (.bin .idx (.var 2) (.dat (.int 0))) .nil)) .nil)) (.cons (.set 4 (.bin .add (.var 4) (.lst (.cons (.call 12 [0, 1] (.cons (.call 12 [0, 1] (.cons (.var 0) (.cons (.var 2) .nil)) .nil) (.cons (.var 6) .nil)) .nil) (.cons (.call 8 [0, 1] (.cons (.call 8 [0, 1] (.cons (.var 0) (.cons (.var 6) .nil)) .nil) (.cons (.var 2) .nil)) .nil) .nil))))) (.cons (.set 5 (.bin .add (.var 5) (.lst (.cons (.var 0) (.cons (.var 0) .nil))))) .nil))) .nil) (.cons (.ret (.bin .eq (.un .repr (.var 4)) (.un .repr (.var 5)))) .nil))))))))))
def fe__law_is_back : FE := fun f => match f with
  | 11 => F_shifted
  | 6 => F_added
  | 8 => F_scaled
  | 7 => F_multiplied
  | 12 => F_stretched
  | 14 => F__law_lowest
  | _ => fun _ _ _ => False
@[irreducible] def F__law_is_back : List SV → KA → KX → Prop := runF fe__law_is_back 3 7 b__law_is_back
abbrev n__law_is_at : List Str := ["_law_poly_here", "_law_spot", "_law_due"]
def b__law_is_at : Sm := (.cons (.set 2 (.call 20 [0, 1] (.cons (.var 0) (.cons (.var 1) .nil)) .nil)) (.cons (.ret (.bin .eq (.un .repr (.lst (.cons (.call 5 [0, 1] (.cons (.var 0) (.cons (.var 1) .nil)) .nil) (.cons (.call 5 [1, 0] .nil (.cons (.var 1) (.cons (.var 0) .nil))) .nil)))) (.un .repr (.bin .mul (.lst (.cons (.call 14 [0, 1] (.cons (.bin .idx (.var 2) (.dat (.int 0))) (.cons (.bin .idx (.var 2) (.dat (.int 1))) .nil)) .nil) .nil)) (.dat (.int 2)))))) .nil))
def fe__law_is_at : FE := fun f => match f with
  | 20 => F__law_value
  | 5 => F_at
  | 14 => F__law_lowest
  | _ => fun _ _ _ => False
@[irreducible] def F__law_is_at : List SV → KA → KX → Prop := runF fe__law_is_at 2 3 b__law_is_at
abbrev n_law : List Str := ["_law_script", "_law_source_here", "_law_turn", "_law_wide", "_law_poly_here", "_law_mate_here", "_law_by", "_law_spot"]
def b_law : Sm := (.cons (.loop (.nm 2) (.rng1 (.dat (.int 4))) (.cons (.set 3 (.ife (.bin .eq (.var 2) (.dat (.int 1))) (.dat (.int 7)) (.dat (.int 4)))) (.cons (.set 4 (.call 18 [0, 1, 2] (.cons (.var 1) (.cons (.bin .add (.call 0 [0, 1] (.cons (.var 1) (.cons (.var 3) .nil)) .nil) (.ife (.bin .lt (.var 2) (.dat (.int 2))) (.dat (.int 1)) (.dat (.int 0)))) (.cons (.dat (.int 12)) .nil))) .nil)) (.cons (.set 5 (.call 33 [0, 1, 2] (.cons (.var 1) (.cons (.var 4) (.cons (.bin .add (.call 0 [0, 1] (.cons (.var 1) (.cons (.var 3) .nil)) .nil) (.dat (.int 1))) .nil))) .nil)) (.cons (.set 6 (.call 13 [0, 1] (.cons (.var 1) (.cons (.lst (.cons (.tup (.cons (.dat (.int 0)) (.cons (.dat (.int 1)) .nil))) (.cons (.tup (.cons (.dat (.int 1)) (.cons (.dat (.int 1)) .nil))) (.cons (.tup (.cons (.un .neg (.dat (.int 1))) (.cons (.dat (.int 1)) .nil))) (.cons (.call 17 [0, 1] (.cons (.var 1) (.cons (.dat (.int 12)) .nil)) .nil) (.cons (.call 17 [0, 1] (.cons (.var 1) (.cons (.dat (.int 12)) .nil)) .nil) .nil)))))) .nil)) .nil)) (.cons (.ifs (.bor (.bnot (.call 34 [0, 1, 2] (.cons (.var 1) (.cons (.var 4) (.cons (.var 5) .nil))) .nil)) (.bnot (.call 35 [0, 1, 2] (.cons (.var 1) (.cons (.var 4) (.cons (.var 6) .nil))) .nil))) (.cons (.ret (.dat (.bool false))) .nil) .nil) (.cons (.loop (.nm 7) (.lst (.cons (.var 6) (.cons (.call 17 [0, 1] (.cons (.var 1) (.cons (.dat (.int 12)) .nil)) .nil) (.cons (.tup (.cons (.dat (.int 0)) (.cons (.dat (.int 1)) .nil))) (.cons (.tup (.cons (.dat (.int 1)) (.cons (.dat (.int 1)) .nil))) .nil))))) (.cons (.ifs (.bor (.bnot (.call 26 [0, 1] (.cons (.var 4) (.cons (.var 7) .nil)) .nil)) (.bnot (.call 26 [0, 1] (.cons (.var 5) (.cons (.var 7) .nil)) .nil))) (.cons (.ret (.dat (.bool false))) .nil) .nil) .nil)) (.cons (.ifs (.band (.bin .ne (.var 2) (.dat (.int 1))) (.bnot (.call 36 [0, 1, 2] (.cons (.var 4) (.cons (.var 5) (.cons (.var 6) .nil))) .nil))) (.cons (.ret (.dat (.bool false))) .nil) .nil) .nil)))))))) (.cons (.ret (.bin .eq (.un .repr (.lst (.cons (.call 6 [0, 1] (.cons (.tup .nil) (.cons (.tup .nil) .nil)) .nil) (.cons (.call 7 [0, 1] (.cons (.tup .nil) (.cons (.tup .nil) .nil)) .nil) (.cons (.call 11 [0, 1] (.cons (.tup .nil) (.cons (.tup (.cons (.dat (.int 1)) (.cons (.dat (.int 2)) .nil))) .nil)) .nil) (.cons (.call 12 [0, 1] (.cons (.tup .nil) (.cons (.tup (.cons (.dat (.int 0)) (.cons (.dat (.int 1)) .nil))) .nil)) .nil) .nil)))))) (.un .repr (.bin .mul (.lst (.cons (.tup .nil) .nil)) (.dat (.int 4)))))) .nil))
def fe_law : FE := fun f => match f with
  | 18 => F__law_poly
  | 0 => F__law_draw
  | 33 => F__law_mate
  | 13 => F__law_of
  | 17 => F__law_fraction
  | 34 => F__law_is_sum
  | 35 => F__law_is_scaled
  | 26 => F__law_is_at
  | 36 => F__law_is_back
  | 6 => F_added
  | 7 => F_multiplied
  | 11 => F_shifted
  | 12 => F_stretched
  | _ => fun _ _ _ => False
def t3__law_value : Sm := .nil
def t2__law_value : Sm := .cons (.ret (.tup (.cons (.var 2) (.cons (.var 3) .nil)))) t3__law_value
def t1__law_value : Sm := .cons (.loop (.tp [4, 5]) (.rvd (.un .list (.var 0))) (.cons (.par [2, 3] (.cons (.bin .add (.bin .mul (.bin .mul (.var 2) (.bin .idx (.var 1) (.dat (.int 0)))) (.var 5)) (.bin .mul (.bin .mul (.var 4) (.var 3)) (.bin .idx (.var 1) (.dat (.int 1))))) (.cons (.bin .mul (.bin .mul (.var 3) (.bin .idx (.var 1) (.dat (.int 1)))) (.var 5)) .nil))) .nil)) t2__law_value
def t0__law_value : Sm := .cons (.par [2, 3] (.cons (.dat (.int 0)) (.cons (.dat (.int 1)) .nil))) t1__law_value
theorem bt__law_value : b__law_value = t0__law_value := rfl
def t2__law_spots : Sm := .nil
def t1__law_spots : Sm := .cons (.ret (.cmp [4] (.call 14 [0, 1] (.cons (.bin .add (.var 2) (.var 4)) (.cons (.var 3) .nil)) .nil) (.nm 4) (.rng1 (.var 1)) .no)) t2__law_spots
def t0__law_spots : Sm := .cons (.par [2, 3] (.cons (.bin .sub (.call 0 [0, 1] (.cons (.var 0) (.cons (.dat (.int 13)) .nil)) .nil) (.dat (.int 9))) (.cons (.call 13 [0, 1] (.cons (.var 0) (.cons (.lst (.cons (.dat (.int 1)) (.cons (.dat (.int 1)) (.cons (.dat (.int 2)) (.cons (.dat (.int 3)) .nil))))) .nil)) .nil) .nil))) t1__law_spots
theorem bt__law_spots : b__law_spots = t0__law_spots := rfl
def t2__law_is_made_1 : Sm := .nil
def t1__law_is_made_1 : Sm := .cons (.ifs (.bin .ne (.bin .mul (.var 6) (.bin .idx (.var 5) (.dat (.int 1)))) (.bin .mul (.bin .idx (.var 5) (.dat (.int 0))) (.var 7))) (.cons (.ret (.dat (.bool false))) .nil) .nil) t2__law_is_made_1
def t0__law_is_made_1 : Sm := .cons (.unp [6, 7] (.call 20 [0, 1] (.cons (.var 0) (.cons (.var 4) .nil)) .nil)) t1__law_is_made_1
def t3__law_is_made : Sm := .nil
def t2__law_is_made : Sm := .cons (.ret (.dat (.bool true))) t3__law_is_made
def t1__law_is_made : Sm := .cons (.loop (.tp [4, 5]) (.zip2 (.var 2) (.var 3)) t0__law_is_made_1) t2__law_is_made
def t0__law_is_made : Sm := .cons (.ifs (.bor (.bnot (.call 30 [0] (.cons (.var 0) .nil) .nil)) (.bin .gt (.un .len (.var 0)) (.var 1))) (.cons (.ret (.dat (.bool false))) .nil) .nil) t1__law_is_made
theorem bt__law_is_made : b__law_is_made = t0__law_is_made := rfl
def t5__law_mate : Sm := .nil
def t4__law_mate : Sm := .cons (.ret (.un .tuple (.bin .add (.var 4) (.cmp [6, 7] (.tup (.cons (.un .neg (.var 6)) (.cons (.var 7) .nil))) (.tp [6, 7]) (.slc (.var 1) (.var 3) .no) .no)))) t5__law_mate
def t3__law_mate : Sm := .cons (.frz 4) t4__law_mate
def t2__law_mate : Sm := .cons (.set 4 (.cmp [5] (.call 17 [0, 1] (.cons (.var 0) (.cons (.dat (.int 12)) .nil)) .nil) (.nm 5) (.rng1 (.var 3)) .no)) t3__law_mate
def t1__law_mate : Sm := .cons (.set 3 (.call 0 [0, 1] (.cons (.var 0) (.cons (.un .len (.var 1)) .nil)) .nil)) t2__law_mate
def t0__law_mate : Sm := .cons (.ifs (.bor (.bin .eq (.var 1) (.tup .nil)) (.bin .eq (.call 0 [0, 1] (.cons (.var 0) (.cons (.dat (.int 3)) .nil)) .nil) (.dat (.int 0)))) (.cons (.ret (.call 18 [0, 1, 2] (.cons (.var 0) (.cons (.var 2) (.cons (.dat (.int 12)) .nil))) .nil)) .nil) .nil) t1__law_mate
theorem bt__law_mate : b__law_mate = t0__law_mate := rfl
def t16__law_is_sum : Sm := .nil
def t15__law_is_sum : Sm := .cons (.ret (.bin .eq (.un .repr (.call 7 [0, 1] (.cons (.var 2) (.cons (.var 1) .nil)) .nil)) (.un .repr (.var 7)))) t16__law_is_sum
def t14__law_is_sum : Sm := .cons (.ifs (.bor (.bnot (.call 32 [0, 1, 2, 3] (.cons (.var 7) (.cons (.var 3) (.cons (.var 4) (.cons (.cmp [9, 10] (.tup (.cons (.bin .mul (.bin .idx (.var 9) (.dat (.int 0))) (.bin .idx (.var 10) (.dat (.int 0)))) (.cons (.bin .mul (.bin .idx (.var 9) (.dat (.int 1))) (.bin .idx (.var 10) (.dat (.int 1)))) .nil))) (.tp [9, 10]) (.var 5) .no) .nil)))) .nil)) (.bin .ne (.un .len (.var 7)) (.var 3))) (.cons (.ret (.dat (.bool false))) .nil) .nil) t15__law_is_sum
def t13__law_is_sum : Sm := .cons (.set 7 (.call 7 [1, 0] .nil (.cons (.var 2) (.cons (.var 1) .nil)))) t14__law_is_sum
def t12__law_is_sum : Sm := .cons (.frz 5) t13__law_is_sum
def t11__law_is_sum : Sm := .cons (.set 5 (.cmp [8] (.lst (.cons (.call 20 [0, 1] (.cons (.var 1) (.cons (.var 8) .nil)) .nil) (.cons (.call 20 [0, 1] (.cons (.var 2) (.cons (.var 8) .nil)) .nil) .nil))) (.nm 8) (.var 4) .no)) t12__law_is_sum
def t10__law_is_sum : Sm := .cons (.frz 4) t11__law_is_sum
def t9__law_is_sum : Sm := .cons (.set 4 (.call 31 [0, 1] (.cons (.var 0) (.cons (.bin .add (.var 3) (.dat (.int 1))) .nil)) .nil)) t10__law_is_sum
def t8__law_is_sum : Sm := .cons (.set 3 (.ife (.bor (.bin .eq (.var 1) (.tup .nil)) (.bin .eq (.var 2) (.tup .nil))) (.dat (.int 0)) (.bin .sub (.bin .add (.un .len (.var 1)) (.un .len (.var 2))) (.dat (.int 1))))) t9__law_is_sum
def t7__law_is_sum : Sm := .cons (.ifs (.bor (.bnot (.call 32 [0, 1, 2, 3] (.cons (.call 6 [0, 1] (.cons (.var 1) (.cons (.var 2) .nil)) .nil) (.cons (.var 3) (.cons (.var 4) (.cons (.var 6) .nil)))) .nil)) (.bin .ne (.call 6 [1, 0] .nil (.cons (.var 1) (.cons (.var 2) .nil))) (.call 6 [0, 1] (.cons (.var 1) (.cons (.var 2) .nil)) .nil))) (.cons (.ret (.dat (.bool false))) .nil) .nil) t8__law_is_sum
def t6__law_is_sum : Sm := .cons (.frz 6) t7__law_is_sum
def t5__law_is_sum : Sm := .cons (.set 6 (.cmp [9, 10] (.tup (.cons (.bin .add (.bin .mul (.bin .idx (.var 9) (.dat (.int 0))) (.bin .idx (.var 10) (.dat (.int 1)))) (.bin .mul (.bin .idx (.var 10) (.dat (.int 0))) (.bin .idx (.var 9) (.dat (.int 1))))) (.cons (.bin .mul (.bin .idx (.var 9) (.dat (.int 1))) (.bin .idx (.var 10) (.dat (.int 1)))) .nil))) (.tp [9, 10]) (.var 5) .no)) t6__law_is_sum
def t4__law_is_sum : Sm := .cons (.frz 5) t5__law_is_sum
def t3__law_is_sum : Sm := .cons (.set 5 (.cmp [8] (.lst (.cons (.call 20 [0, 1] (.cons (.var 1) (.cons (.var 8) .nil)) .nil) (.cons (.call 20 [0, 1] (.cons (.var 2) (.cons (.var 8) .nil)) .nil) .nil))) (.nm 8) (.var 4) .no)) t4__law_is_sum
def t2__law_is_sum : Sm := .cons (.frz 4) t3__law_is_sum
def t1__law_is_sum : Sm := .cons (.set 4 (.call 31 [0, 1] (.cons (.var 0) (.cons (.bin .add (.var 3) (.dat (.int 1))) .nil)) .nil)) t2__law_is_sum
def t0__law_is_sum : Sm := .cons (.set 3 (.max3 (.dat (.int 0)) (.un .len (.var 1)) (.un .len (.var 2)))) t1__law_is_sum
theorem bt__law_is_sum : b__law_is_sum = t0__law_is_sum := rfl
def t17__law_is_scaled : Sm := .nil
def t16__law_is_scaled : Sm := .cons (.ret (.bin .eq (.un .repr (.var 7)) (.un .repr (.lst (.cons (.call 8 [0, 1] (.cons (.var 1) (.cons (.var 2) .nil)) .nil) (.cons (.call 11 [0, 1] (.cons (.var 1) (.cons (.var 2) .nil)) .nil) (.cons (.var 6) .nil))))))) t17__law_is_scaled
def t15__law_is_scaled : Sm := .cons (.frz 7) t16__law_is_scaled
def t14__law_is_scaled : Sm := .cons (.set 7 (.lst (.cons (.call 8 [1, 0] .nil (.cons (.var 2) (.cons (.var 1) .nil))) (.cons (.call 11 [1, 0] .nil (.cons (.var 2) (.cons (.var 1) .nil))) (.cons (.call 12 [1, 0] .nil (.cons (.var 2) (.cons (.var 1) .nil))) .nil))))) t15__law_is_scaled
def t13__law_is_scaled : Sm := .cons (.ifs (.bnot (.call 32 [0, 1, 2, 3] (.cons (.var 6) (.cons (.ife (.bin .ne (.bin .idx (.var 2) (.dat (.int 0))) (.dat (.int 0))) (.un .len (.var 1)) (.dat (.int 1))) (.cons (.var 3) (.cons (.var 4) .nil)))) .nil)) (.cons (.ret (.dat (.bool false))) .nil) .nil) t14__law_is_scaled
def t12__law_is_scaled : Sm := .cons (.set 6 (.call 12 [0, 1] (.cons (.var 1) (.cons (.var 2) .nil)) .nil)) t13__law_is_scaled
def t11__law_is_scaled : Sm := .cons (.frz 4) t12__law_is_scaled
def t10__law_is_scaled : Sm := .cons (.set 4 (.cmp [9, 10] (.call 20 [0, 1] (.cons (.var 1) (.cons (.tup (.cons (.bin .mul (.var 9) (.bin .idx (.var 2) (.dat (.int 0)))) (.cons (.bin .mul (.var 10) (.bin .idx (.var 2) (.dat (.int 1)))) .nil))) .nil)) .nil) (.tp [9, 10]) (.var 3) .no)) t11__law_is_scaled
def t9__law_is_scaled : Sm := .cons (.ifs (.bor (.bnot (.call 32 [0, 1, 2, 3] (.cons (.var 6) (.cons (.un .len (.var 1)) (.cons (.var 3) (.cons (.var 4) .nil)))) .nil)) (.bin .ne (.un .len (.var 6)) (.un .len (.var 1)))) (.cons (.ret (.dat (.bool false))) .nil) .nil) t10__law_is_scaled
def t8__law_is_scaled : Sm := .cons (.set 6 (.call 11 [0, 1] (.cons (.var 1) (.cons (.var 2) .nil)) .nil)) t9__law_is_scaled
def t7__law_is_scaled : Sm := .cons (.frz 4) t8__law_is_scaled
def t6__law_is_scaled : Sm := .cons (.set 4 (.cmp [9, 10] (.call 20 [0, 1] (.cons (.var 1) (.cons (.tup (.cons (.bin .add (.bin .mul (.var 9) (.bin .idx (.var 2) (.dat (.int 1)))) (.bin .mul (.bin .idx (.var 2) (.dat (.int 0))) (.var 10))) (.cons (.bin .mul (.var 10) (.bin .idx (.var 2) (.dat (.int 1)))) .nil))) .nil)) .nil) (.tp [9, 10]) (.var 3) .no)) t7__law_is_scaled
def t5__law_is_scaled : Sm := .cons (.ifs (.bnot (.call 32 [0, 1, 2, 3] (.cons (.call 8 [0, 1] (.cons (.var 1) (.cons (.var 2) .nil)) .nil) (.cons (.var 5) (.cons (.var 3) (.cons (.cmp [9, 10] (.tup (.cons (.bin .mul (.bin .idx (.var 2) (.dat (.int 0))) (.var 9)) (.cons (.bin .mul (.bin .idx (.var 2) (.dat (.int 1))) (.var 10)) .nil))) (.tp [9, 10]) (.var 4) .no) .nil)))) .nil)) (.cons (.ret (.dat (.bool false))) .nil) .nil) t6__law_is_scaled
def t4__law_is_scaled : Sm := .cons (.set 5 (.ife (.bin .eq (.bin .idx (.var 2) (.dat (.int 0))) (.dat (.int 0))) (.dat (.int 0)) (.un .len (.var 1)))) t5__law_is_scaled
def t3__law_is_scaled : Sm := .cons (.frz 4) t4__law_is_scaled
def t2__law_is_scaled : Sm := .cons (.set 4 (.cmp [8] (.call 20 [0, 1] (.cons (.var 1) (.cons (.var 8) .nil)) .nil) (.nm 8) (.var 3) .no)) t3__law_is_scaled
def t1__law_is_scaled : Sm := .cons (.frz 3) t2__law_is_scaled
def t0__law_is_scaled : Sm := .cons (.set 3 (.call 31 [0, 1] (.cons (.var 0) (.cons (.bin .add (.un .len (.var 1)) (.dat (.int 1))) .nil)) .nil)) t1__law_is_scaled
theorem bt__law_is_scaled : b__law_is_scaled = t0__law_is_scaled := rfl
def t3__law_is_back_8a : Sm := .nil
def t2__law_is_back_8a : Sm := .cons (.set 5 (.bin .add (.var 5) (.lst (.cons (.var 0) (.cons (.var 0) .nil))))) t3__law_is_back_8a
def t1__law_is_back_8a : Sm := .cons (.set 4 (.bin .add (.var 4) (.lst (.cons (.call 12 [0, 1] (.cons (.call 12 [0, 1] (.cons (.var 0) (.cons (.var 2) .nil)) .nil) (.cons (.var 6) .nil)) .nil) (.cons (.call 8 [0, 1] (.cons (.call 8 [0, 1] (.cons (.var 0) (.cons (.var 6) .nil)) .nil) (.cons (.var 2) .nil)) .nil) .nil))))) t2__law_is_back_8a
def t0__law_is_back_8a : Sm := .cons (.set 6 (.call 14 [0, 1] (.cons (.bin .idx (.var 2) (.dat (.int 1))) (.cons (.bin .idx (.var 2) (.dat (.int 0))) .nil)) .nil)) t1__law_is_back_8a
def t10__law_is_back : Sm := .nil
def t9__law_is_back : Sm := .cons (.ret (.bin .eq (.un .repr (.var 4)) (.un .repr (.var 5)))) t10__law_is_back
def t8__law_is_back : Sm := .cons (.ifs (.bin .ne (.bin .idx (.var 2) (.dat (.int 0))) (.dat (.int 0))) t0__law_is_back_8a .nil) t9__law_is_back
def t7__law_is_back : Sm := .cons (.set 5 (.bin .add (.var 5) (.lst (.cons (.call 6 [0, 1] (.cons (.call 11 [0, 1] (.cons (.var 0) (.cons (.var 2) .nil)) .nil) (.cons (.call 11 [0, 1] (.cons (.var 1) (.cons (.var 2) .nil)) .nil) .nil)) .nil) (.cons (.call 6 [0, 1] (.cons (.call 12 [0, 1] (.cons (.var 0) (.cons (.var 2) .nil)) .nil) (.cons (.call 12 [0, 1] (.cons (.var 1) (.cons (.var 2) .nil)) .nil) .nil)) .nil) (.cons (.var 0) (.cons (.tup .nil) .nil))))))) t8__law_is_back
def t6__law_is_back : Sm := .cons (.set 4 (.bin .add (.var 4) (.lst (.cons (.call 6 [0, 1] (.cons (.var 0) (.cons (.tup .nil) .nil)) .nil) (.cons (.call 8 [0, 1] (.cons (.var 0) (.cons (.tup (.cons (.dat (.int 0)) (.cons (.dat (.int 1)) .nil))) .nil)) .nil) .nil))))) t7__law_is_back
def t5__law_is_back : Sm := .cons (.set 4 (.bin .add (.var 4) (.lst (.cons (.call 11 [0, 1] (.cons (.call 6 [0, 1] (.cons (.var 0) (.cons (.var 1) .nil)) .nil) (.cons (.var 2) .nil)) .nil) (.cons (.call 12 [0, 1] (.cons (.call 6 [0, 1] (.cons (.var 0) (.cons (.var 1) .nil)) .nil) (.cons (.var 2) .nil)) .nil) .nil))))) t6__law_is_back
def t4__law_is_back : Sm := .cons (.app 5 (.call 6 [0, 1] (.cons (.call 7 [0, 1] (.cons (.var 1) (.cons (.var 0) .nil)) .nil) (.cons (.call 6 [0, 1] (.cons (.var 0) (.cons (.ife (.bin .ne (.bin .idx (.var 2) (.dat (.int 0))) (.dat (.int 0))) (.call 7 [0, 1] (.cons (.tup (.cons (.tup (.cons (.dat (.int 0)) (.cons (.dat (.int 1)) .nil))) (.cons (.var 2) .nil))) (.cons (.var 0) .nil)) .nil) (.tup .nil)) .nil)) .nil) .nil)) .nil)) t5__law_is_back
def t3__law_is_back : Sm := .cons (.app 4 (.call 7 [0, 1] (.cons (.var 0) (.cons (.call 6 [0, 1] (.cons (.var 1) (.cons (.ife (.bin .ne (.bin .idx (.var 2) (.dat (.int 0))) (.dat (.int 0))) (.tup (.cons (.tup (.cons (.dat (.int 1)) (.cons (.dat (.int 1)) .nil))) (.cons (.var 2) .nil))) (.tup (.cons (.tup (.cons (.dat (.int 1)) (.cons (.dat (.int 1)) .nil))) .nil))) .nil)) .nil) .nil)) .nil)) t4__law_is_back
def t2__law_is_back : Sm := .cons (.set 5 (.lst (.cons (.var 0) (.cons (.tup .nil) (.cons (.call 6 [0, 1] (.cons (.call 8 [0, 1] (.cons (.var 0) (.cons (.tup (.cons (.dat (.int 2)) (.cons (.dat (.int 1)) .nil))) .nil)) .nil) (.cons (.var 1) .nil)) .nil) .nil))))) t3__law_is_back
def t1__law_is_back : Sm := .cons (.set 4 (.lst (.cons (.call 11 [0, 1] (.cons (.call 11 [0, 1] (.cons (.var 0) (.cons (.var 2) .nil)) .nil) (.cons (.var 3) .nil)) .nil) (.cons (.call 6 [0, 1] (.cons (.var 0) (.cons (.call 8 [0, 1] (.cons (.var 0) (.cons (.tup (.cons (.un .neg (.dat (.int 1))) (.cons (.dat (.int 1)) .nil))) .nil)) .nil) .nil)) .nil) (.cons (.call 6 [0, 1] (.cons (.call 6 [0, 1] (.cons (.var 0) (.cons (.var 1) .nil)) .nil) (.cons (.var 0) .nil)) .nil) .nil))))) t2__law_is_back
def t0__law_is_back : Sm := .cons (.set 3 (.tup (.cons (.un .neg (.bin .idx (.var 2) (.dat (.int 0)))) (.cons (.bin .idx (.var 2) (.dat (.int 1))) .nil)))) t1__law_is_back
theorem bt__law_is_back : b__law_is_back = t0__law_is_back := rfl
def t2__law_is_at : Sm := .nil
def t1__law_is_at : Sm := .cons (.ret (.bin .eq (.un .repr (.lst (.cons (.call 5 [0, 1] (.cons (.var 0) (.cons (.var 1) .nil)) .nil) (.cons (.call 5 [1, 0] .nil (.cons (.var 1) (.cons (.var 0) .nil))) .nil)))) (.un .repr (.bin .mul (.lst (.cons (.call 14 [0, 1] (.cons (.bin .idx (.var 2) (.dat (.int 0))) (.cons (.bin .idx (.var 2) (.dat (.int 1))) .nil)) .nil) .nil)) (.dat (.int 2)))))) t2__law_is_at
def t0__law_is_at : Sm := .cons (.set 2 (.call 20 [0, 1] (.cons (.var 0) (.cons (.var 1) .nil)) .nil)) t1__law_is_at
theorem bt__law_is_at : b__law_is_at = t0__law_is_at := rfl
def t7_law_0 : Sm := .nil
def t6_law_0 : Sm := .cons (.ifs (.band (.bin .ne (.var 2) (.dat (.int 1))) (.bnot (.call 36 [0, 1, 2] (.cons (.var 4) (.cons (.var 5) (.cons (.var 6) .nil))) .nil))) (.cons (.ret (.dat (.bool false))) .nil) .nil) t7_law_0
def t5_law_0 : Sm := .cons (.loop (.nm 7) (.lst (.cons (.var 6) (.cons (.call 17 [0, 1] (.cons (.var 1) (.cons (.dat (.int 12)) .nil)) .nil) (.cons (.tup (.cons (.dat (.int 0)) (.cons (.dat (.int 1)) .nil))) (.cons (.tup (.cons (.dat (.int 1)) (.cons (.dat (.int 1)) .nil))) .nil))))) (.cons (.ifs (.bor (.bnot (.call 26 [0, 1] (.cons (.var 4) (.cons (.var 7) .nil)) .nil)) (.bnot (.call 26 [0, 1] (.cons (.var 5) (.cons (.var 7) .nil)) .nil))) (.cons (.ret (.dat (.bool false))) .nil) .nil) .nil)) t6_law_0
def t4_law_0 : Sm := .cons (.ifs (.bor (.bnot (.call 34 [0, 1, 2] (.cons (.var 1) (.cons (.var 4) (.cons (.var 5) .nil))) .nil)) (.bnot (.call 35 [0, 1, 2] (.cons (.var 1) (.cons (.var 4) (.cons (.var 6) .nil))) .nil))) (.cons (.ret (.dat (.bool false))) .nil) .nil) t5_law_0
def t3_law_0 : Sm := .cons (.set 6 (.call 13 [0, 1] (.cons (.var 1) (.cons (.lst (.cons (.tup (.cons (.dat (.int 0)) (.cons (.dat (.int 1)) .nil))) (.cons (.tup (.cons (.dat (.int 1)) (.cons (.dat (.int 1)) .nil))) (.cons (.tup (.cons (.un .neg (.dat (.int 1))) (.cons (.dat (.int 1)) .nil))) (.cons (.call 17 [0, 1] (.cons (.var 1) (.cons (.dat (.int 12)) .nil)) .nil) (.cons (.call 17 [0, 1] (.cons (.var 1) (.cons (.dat (.int 12)) .nil)) .nil) .nil)))))) .nil)) .nil)) t4_law_0
def t2_law_0 : Sm := .cons (.set 5 (.call 33 [0, 1, 2] (.cons (.var 1) (.cons (.var 4) (.cons (.bin .add (.call 0 [0, 1] (.cons (.var 1) (.cons (.var 3) .nil)) .nil) (.dat (.int 1))) .nil))) .nil)) t3_law_0
def t1_law_0 : Sm := .cons (.set 4 (.call 18 [0, 1, 2] (.cons (.var 1) (.cons (.bin .add (.call 0 [0, 1] (.cons (.var 1) (.cons (.var 3) .nil)) .nil) (.ife (.bin .lt (.var 2) (.dat (.int 2))) (.dat (.int 1)) (.dat (.int 0)))) (.cons (.dat (.int 12)) .nil))) .nil)) t2_law_0
def t0_law_0 : Sm := .cons (.set 3 (.ife (.bin .eq (.var 2) (.dat (.int 1))) (.dat (.int 7)) (.dat (.int 4)))) t1_law_0
def t2_law : Sm := .nil
def t1_law : Sm := .cons (.ret (.bin .eq (.un .repr (.lst (.cons (.call 6 [0, 1] (.cons (.tup .nil) (.cons (.tup .nil) .nil)) .nil) (.cons (.call 7 [0, 1] (.cons (.tup .nil) (.cons (.tup .nil) .nil)) .nil) (.cons (.call 11 [0, 1] (.cons (.tup .nil) (.cons (.tup (.cons (.dat (.int 1)) (.cons (.dat (.int 2)) .nil))) .nil)) .nil) (.cons (.call 12 [0, 1] (.cons (.tup .nil) (.cons (.tup (.cons (.dat (.int 0)) (.cons (.dat (.int 1)) .nil))) .nil)) .nil) .nil)))))) (.un .repr (.bin .mul (.lst (.cons (.tup .nil) .nil)) (.dat (.int 4)))))) t2_law
def t0_law : Sm := .cons (.loop (.nm 2) (.rng1 (.dat (.int 4))) t0_law_0) t1_law
theorem bt_law : b_law = t0_law := rfl
end Lk03
end
section
/-! k03: the law's own small defs. -/
namespace Lk03
open PySem Un Pg Fa
abbrev Pr (w : Int × Int) : PyData := .tuple [.int w.1, .int w.2]
section
variable {k : KA} {x : KX}
theorem hstep' (u d su sd : Int) (q : Rat) (hd : d ≠ 0) (hs : sd ≠ 0) : Rat.divInt (u * su * q.den + q.num * d * sd) (d * sd * q.den) = Rat.divInt u d * Rat.divInt su sd + q := by
  rw [Rat.divInt_mul_divInt]
  conv => rhs; rhs; rw [← Rat.num_divInt_den q]
  rw [Rat.divInt_add_divInt _ _ (Int.mul_ne_zero hd hs) (den_ne q), Int.mul_assoc q.num]
/-- what the value of a polynomial at a pair comes to -/
structure Vl (l : List Rat) (s : Rat) (c : Nat) (w : Int × Int) : Prop where
  pos : 0 < w.2
  val : Rat.divInt w.1 w.2 = evR l s
  b1 : w.1.natAbs < 2 ^ c
  b2 : w.2.natAbs < 2 ^ c
theorem Vl.mono {l : List Rat} {s : Rat} {c c' : Nat} {w : Int × Int} (h : Vl l s c w) (hc : c ≤ c') : Vl l s c' w :=
  ⟨h.pos, h.val, Nat.lt_of_lt_of_le h.b1 (Nat.pow_le_pow_right (by decide) hc), Nat.lt_of_lt_of_le h.b2 (Nat.pow_le_pow_right (by decide) hc)⟩
theorem value_ok {l : List Rat} {su sd : Int} {a b : Nat} (hl : BdL a l) (h0 : 0 < sd) (h1 : su.natAbs < 2 ^ b) (h2 : sd.natAbs < 2 ^ b) (hz : (l.length + 1) * (a + b + 1) < 3000)
    (hk : ∀ w, Vl l (Rat.divInt su sd) (l.length * (a + b + 1) + 1) w → k (.d (Pr w))) : F__law_value [.d (PT l), .d (.tuple [.int su, .int sd])] k x := by
  simp [F__law_value, runF, b__law_value, PT]
  let I : Nat → List SV → Prop := fun i ρ => ∃ (u d : Int) (w1 w2 : SV), ρ = [.d (.tuple (PL l)), .d (.tuple [.int su, .int sd]), .d (.int u), .d (.int d), w1, w2] ∧ 0 < d ∧ u.natAbs < 2 ^ (i * (a + b + 1) + 1) ∧ d.natAbs < 2 ^ (i * (a + b + 1) + 1) ∧ Rat.divInt u d = evR (l.drop (l.length - i)) (Rat.divInt su sd)
  refine loop_inv I (i := 0) ⟨0, 1, .un, .un, rfl, by decide, by simp, by simp, by simp [evR]⟩ (fun j y ρ hy hI => ?_) fun ρ hI => ?_
  · obtain ⟨u, d, w1, w2, rfl, hd0, hu, hd, he⟩ := hI
    have hj : j < l.length := by
      have := (List.getElem?_eq_some_iff.mp hy).1
      simpa [PL] using this
    rw [List.getElem?_reverse (by rw [PL_len]; exact hj), PL_len] at hy
    obtain ⟨q, hq, rfl⟩ := PL_get hy
    refine ⟨_, rfl, fun kf h => ?_⟩
    have hdr : l.drop (l.length - (0 + j + 1)) = q :: l.drop (l.length - (0 + j)) := by
      have e : l.length - (0 + j + 1) = l.length - 1 - j := by omega
      have e2 : l.length - (0 + j) = (l.length - 1 - j) + 1 := by omega
      rw [e, e2]
      exact (List.drop_eq_getElem?_toList_append).trans (by rw [hq] <;> rfl)
    simp only [Nat.zero_add] at h hu hd he hdr
    have hm : j * (a + b + 1) + (a + b + 1) ≤ l.length * (a + b + 1) := by
      rw [← Nat.succ_mul]
      exact Nat.mul_le_mul_right _ hj
    have hz' : l.length * (a + b + 1) + (a + b + 1) < 3000 := by rw [← Nat.succ_mul]; exact hz
    have hqb := hl.get hq
    simp [Fr]
    have g1 := mul_lt hu h1
    have g2 := mul_lt g1 hqb.dn
    have g3 := mul_lt hqb.1 hd
    have g4 := mul_lt g3 h2
    have g5 := mul_lt hd h2
    have g6 := mul_lt g5 hqb.dn
    refine ⟨mul_ok hu h1 (by omega), mul_ok g1 hqb.dn (by omega), mul_ok hqb.1 hd (by omega), mul_ok g3 h2 (by omega), mul_ok hd h2 (by omega), mul_ok g5 hqb.dn (by omega), ?_⟩
    have hpos : 0 < d * sd * (q.den : Int) := Int.mul_pos (Int.mul_pos hd0 h0) (by have := q.den_pos; omega)
    refine h _ ⟨_, _, _, _, rfl, hpos, ?_, ?_, ?_⟩
    · have g := add_lt (b := 0) (show (u * su * (q.den : Int)).natAbs < 2 ^ (j * (a + b + 1) + 1 + b + a) from g2) (show (q.num * d * sd).natAbs < 2 ^ (j * (a + b + 1) + 1 + b + a) by rw [show j * (a + b + 1) + 1 + b + a = a + (j * (a + b + 1) + 1) + b by omega]; exact g4)
      rw [show (j + 1) * (a + b + 1) + 1 = j * (a + b + 1) + 1 + b + a + 1 by rw [Nat.succ_mul]; omega]
      exact g
    · refine Nat.lt_of_lt_of_le g6 (Nat.pow_le_pow_right (by decide) ?_)
      rw [Nat.succ_mul]
      omega
    · rw [hdr, evR, ← he]
      exact hstep' u d su sd q (by omega) (by omega)
  · obtain ⟨u, d, w1, w2, rfl, hd0, hu, hd, he⟩ := hI
    rw [List.length_reverse, PL_len, Nat.zero_add] at hu hd he
    rw [Nat.sub_self, List.drop_zero] at he
    simp
    refine ⟨by decide, hk (u, d) ⟨hd0, he, hu, hd⟩⟩
theorem value_fr {l : List Rat} {s : Rat} {a b : Nat} (hl : BdL a l) (hs : Bd b s) (hz : (l.length + 1) * (a + b + 1) < 3000)
    (hk : ∀ w, Vl l s (l.length * (a + b + 1) + 1) w → k (.d (Pr w))) : F__law_value [.d (PT l), .d (Fr s)] k x := by
  refine value_ok (su := s.num) (sd := s.den) hl (by have := s.den_pos; omega) hs.1 hs.dn hz fun w h => ?_
  rw [Rat.num_divInt_den] at h
  exact hk w h
theorem spots_ok {n : Nat} (hn : n ≤ 16) (hk : ∀ S : List Rat, S.length = n → BdL 5 S → k (.new (PL S))) : F__law_spots [.src, .d (.int n)] k x := by
  simp [F__law_spots, runF, b__law_spots, fe__law_spots]
  refine draw_ok (by decide) (by decide) fun r hr0 hr1 => ?_
  simp [fe__law_spots]
  refine ⟨by decide, of_ok (by simp) (by simp) fun y hy => ?_⟩
  obtain ⟨d, rfl, h0, h1⟩ : ∃ d : Int, y = .int d ∧ 0 < d ∧ d ≤ 3 := by
    simp at hy
    rcases hy with rfl | rfl | rfl
    · exact ⟨_, rfl, by decide, by decide⟩
    · exact ⟨_, rfl, by decide, by decide⟩
    · exact ⟨_, rfl, by decide, by decide⟩
  simp [isNo, wipeS, RngOk]
  refine ⟨by omega, ?_⟩
  refine cmp_all (P := fun y => ∃ q, Bd 5 q ∧ y = Fr q) (fun y hy => ⟨_, rfl, fun ka h => ?_⟩) (by simpa [rngL] using sz n (by omega)) fun ys hl hp => ?_
  · obtain ⟨i, hi, rfl⟩ : ∃ i : Nat, i < n ∧ y = .int i := by
      obtain ⟨i, hi⟩ := List.getElem?_of_mem hy
      obtain ⟨h2, h3⟩ := rng_get hi
      exact ⟨i, h2, by rw [h3]; simp⟩
    simp [fe__law_spots]
    have hb : Bd 5 (Rat.divInt (r - 9 + i) d) := low_bd (by omega) (by omega) (by omega)
    exact low_ok (m := 5) (by omega) (by omega) (by decide) (h _ ⟨_, hb, rfl⟩)
  · obtain ⟨l, rfl, hl5⟩ := list_Fr hp
    rw [List.nil_append]
    exact hk l (by rw [PL_len] at hl; simpa [rngL] using hl) hl5
theorem zip_get : ∀ (p : List Rat) (q : List (Int × Int)) (i : Nat) (y : PyData), (zipL (PL p) (q.map Pr))[i]? = some y → ∃ a b, p[i]? = some a ∧ q[i]? = some b ∧ y = .tuple [Fr a, Pr b]
  | [], _, i, y, h => by simp [PL, zipL] at h
  | a :: p, [], i, y, h => by simp [PL, zipL] at h
  | a :: p, b :: q, 0, y, h => by
    simp [PL, zipL] at h
    exact ⟨a, b, rfl, rfl, h.symm⟩
  | a :: p, b :: q, i + 1, y, h => by
    obtain ⟨c, d, h1, h2, h3⟩ := zip_get p q i y (by simpa [PL, zipL] using h)
    exact ⟨c, d, by simpa using h1, by simpa using h2, h3⟩
theorem made_ok {l S : List Rat} {W : List (Int × Int)} {a c : Nat} {size : Int} (tl : trimR l = l) (hlen : (l.length : Int) ≤ size) (hl : BdL a l) (hS : BdL 5 S) (ha : (l.length + 1) * (a + 5 + 1) < 3000) (hc : c < 9000)
    (hW : ∀ (i : Nat) s w, S[i]? = some s → W[i]? = some w → Vl l s c w) (hk : k (.d (.bool true))) : F__law_is_made [.d (PT l), .d (.int size), .d (.list (PL S)), .d (.list (W.map Pr))] k x := by
  simp [F__law_is_made, runF, bt__law_is_made, t0__law_is_made, fe__law_is_made]
  refine ispoly_ok tl ?_
  simp [PT, PL_len]
  rw [if_neg (by omega)]
  simp [t1__law_is_made]
  refine loop_inv (fun _ ρ => ∃ u v w y, ρ = [.d (.tuple (PL l)), .d (.int size), .d (.list (PL S)), .d (.list (W.map Pr)), u, v, w, y]) (i := 0) ⟨_, _, _, _, rfl⟩ (fun j y ρ hy hI => ?_) fun ρ hI => ?_
  · obtain ⟨u, v, w, y', rfl⟩ := hI
    obtain ⟨s, w, hs, hw, rfl⟩ := zip_get _ _ j y hy
    refine ⟨_, rfl, fun kf h => ?_⟩
    simp [t0__law_is_made_1, fe__law_is_made]
    rw [show PyData.tuple (PL l) = PT l from rfl]
    refine value_fr hl (hS.get hs) ha fun v hv => ?_
    have hww := hW j s w hs hw
    have hz' : l.length * (a + 5 + 1) + (a + 5 + 1) < 3000 := by rw [← Nat.succ_mul]; exact ha
    simp [t1__law_is_made_1, setD]
    refine ⟨mul_ok hv.b1 hww.b2 (by omega), mul_ok hww.b1 hv.b2 (by omega), ?_⟩
    have e : v.1 * w.2 = w.1 * v.2 := by
      have h1 := hv.val.trans hww.val.symm
      have p1 := hv.pos
      have p2 := hww.pos
      rwa [Rat.divInt_eq_divInt_iff (by omega) (by omega)] at h1
    simp [e, t2__law_is_made_1]
    exact h _ ⟨_, _, _, _, rfl⟩
  · obtain ⟨u, v, w, y', rfl⟩ := hI
    simp [t2__law_is_made]
    exact hk
end
end Lk03
end
section
/-! k03: values; sums and products. -/
namespace Lk03
open PySem Un Pg Fa
section
variable {k : KA} {x : KX}
theorem low_fr {w : Int × Int} {l : List Rat} {s : Rat} {c : Nat} (h : Vl l s c w) (hc : c < 9000) (hk : k (.d (Fr (evR l s)))) : F__law_lowest [.d (.int w.1), .d (.int w.2)] k x := by
  refine low_ok (m := c) (by have := h.pos; omega) h.b2 hc ?_
  rw [h.val]
  exact hk
theorem is_at_ok {l : List Rat} {s : Rat} (hl : BdL 4 l) (hs : Bd 4 s) (hn : l.length ≤ 7) (hk : k (.d (.bool true))) : F__law_is_at [.d (PT l), .d (Fr s)] k x := by
  have h7 : ∀ c : Nat, l.length * c ≤ 7 * c := fun c => Nat.mul_le_mul_right c hn
  have hb : Bd 100 (evR l s) := (evR_bd hs hl).mono (by have := h7 (4 + 4 + 1); omega)
  simp [F__law_is_at, runF, bt__law_is_at, t0__law_is_at, fe__law_is_at]
  refine value_fr hl hs (by omega) fun w hw => ?_
  have hw := hw.mono (show _ ≤ 100 by have := h7 (4 + 4 + 1); omega)
  simp [t1__law_is_at, fe__law_is_at]
  refine at_ok hl hs (by omega) ?_
  simp [fe__law_is_at]
  refine at_ok hl hs (by omega) ?_
  simp [szl]
  have q1 : ShowOk (.list [Fr (evR l s), Fr (evR l s)]) := show_ok (by simp; exact pw_fr hb (by omega)) (by simp)
  refine ⟨q1, ?_⟩
  refine low_fr hw (by omega) ?_
  simp [szl]
  refine rep_n (m := 2) rfl (by decide) (by simp) ?_
  simp
  exact ⟨q1, hk⟩
/-- pairs of values at places -/
theorem pairs_ok {fe : FE} {p q S : List Rat} {ρ : List SV} {kl : List PyData → Prop} (hv : fe 20 = F__law_value) (hp : BdL 4 p) (hq : BdL 4 q) (np : p.length ≤ 7) (nq : q.length ≤ 7) (hS : BdL 5 S) (hn : S.length ≤ 16)
    (h1 : ∀ v, (ρ.set 8 v)[1]? = some (.d (PT p))) (h2 : ∀ v, (ρ.set 8 v)[2]? = some (.d (PT q))) (h8 : 8 < ρ.length)
    (hk : ∀ W : List ((Int × Int) × (Int × Int)), W.length = S.length → (∀ (i : Nat) s w, S[i]? = some s → W[i]? = some w → Vl p s 71 w.1 ∧ Vl q s 71 w.2) → kl (W.map fun w => .list [Pr w.1, Pr w.2])) :
    cmpW (.nm 8) none (ev fe x (.lst (.cons (.call 20 [0, 1] (.cons (.var 1) (.cons (.var 8) .nil)) .nil) (.cons (.call 20 [0, 1] (.cons (.var 2) (.cons (.var 8) .nil)) .nil) .nil)))).v ρ (PL S) [] kl := by
  have g : ∀ (l : List Rat) (c : Nat), l.length ≤ 7 → l.length * c ≤ 7 * c := fun l c h => Nat.mul_le_mul_right c h
  refine cmp_rel (R := fun a y => ∀ s, a = Fr s → ∃ w : (Int × Int) × (Int × Int), y = .list [Pr w.1, Pr w.2] ∧ Vl p s 71 w.1 ∧ Vl q s 71 w.2) (fun y hy => ⟨_, rfl, fun ka h => ?_⟩) (by rw [PL_len]; simpa using sz _ (by omega)) fun ys hl hr => ?_
  · unfold PL at hy
    obtain ⟨s, hs, rfl⟩ := List.mem_map.mp hy
    have v1 : ∀ K : KA, varW (ρ.set 8 (.d (Fr s))) 1 K = K (.d (PT p)) := fun K => by unfold varW; rw [h1]
    have v2 : ∀ K : KA, varW (ρ.set 8 (.d (Fr s))) 2 K = K (.d (PT q)) := fun K => by unfold varW; rw [h2]
    have v8 : ∀ K : KA, varW (ρ.set 8 (.d (Fr s))) 8 K = K (.d (Fr s)) := fun K => by unfold varW; rw [List.getElem?_set_self h8]
    simp only [v_lst, l_cons, l_nil, v_call, v_var, v1, v2, v8]
    simp [hv]
    refine value_fr hp (hS s hs) (by have := g p (4 + 5 + 1) np; omega) fun w1 hw1 => ?_
    simp [hv]
    refine value_fr hq (hS s hs) (by have := g q (4 + 5 + 1) nq; omega) fun w2 hw2 => ?_
    simp [szl]
    refine h _ _ rfl fun s' e => ?_
    obtain rfl := Fr.inj e
    exact ⟨(w1, w2), rfl, hw1.mono (by have := g p (4 + 5 + 1) np; omega), hw2.mono (by have := g q (4 + 5 + 1) nq; omega)⟩
  · rw [PL_len] at hl
    obtain ⟨W, rfl, hW⟩ := choose_list (f := fun w : (Int × Int) × (Int × Int) => PyData.list [Pr w.1, Pr w.2]) (Q := fun i w => ∀ s, S[i]? = some s → Vl p s 71 w.1 ∧ Vl q s 71 w.2) (ys := ys) fun i y e => by
      have hi : i < S.length := by rw [← hl]; exact (List.getElem?_eq_some_iff.mp e).1
      have es : S[i]? = some S[i] := List.getElem?_eq_getElem hi
      obtain ⟨w, h3, h4⟩ := hr i _ y (PL_at es) e _ rfl
      exact ⟨w, h3, fun s e2 => by rw [es] at e2; cases e2; exact h4⟩
    rw [List.nil_append]
    exact hk W (by simpa using hl) fun i s w e1 e2 => hW i w e2 s e1
theorem Vl.sum {p q : List Rat} {s : Rat} {w : (Int × Int) × (Int × Int)} (g1 : Vl p s 71 w.1) (g2 : Vl q s 71 w.2) : Vl (addR p q) s 150 (w.1.1 * w.2.2 + w.2.1 * w.1.2, w.1.2 * w.2.2) where
  pos := Int.mul_pos g1.pos g2.pos
  val := by
    have p1 := g1.pos
    have p2 := g2.pos
    show Rat.divInt (w.1.1 * w.2.2 + w.2.1 * w.1.2) (w.1.2 * w.2.2) = _
    rw [ev_add, ← g1.val, ← g2.val, Rat.divInt_add_divInt _ _ (by omega) (by omega)]
  b1 := Nat.lt_of_lt_of_le (add_lt (b := 0) (mul_lt g1.b1 g2.b2) (by rw [Nat.add_comm]; exact mul_lt g2.b1 g1.b2)) (Nat.pow_le_pow_right (by decide) (by omega))
  b2 := Nat.lt_of_lt_of_le (mul_lt g1.b2 g2.b2) (Nat.pow_le_pow_right (by decide) (by omega))
theorem Vl.prod {p q : List Rat} {s : Rat} {w : (Int × Int) × (Int × Int)} (g1 : Vl p s 71 w.1) (g2 : Vl q s 71 w.2) : Vl (mulR p q) s 150 (w.1.1 * w.2.1, w.1.2 * w.2.2) where
  pos := Int.mul_pos g1.pos g2.pos
  val := by
    show Rat.divInt (w.1.1 * w.2.1) (w.1.2 * w.2.2) = _
    rw [ev_mul, ← g1.val, ← g2.val, Rat.divInt_mul_divInt]
  b1 := Nat.lt_of_lt_of_le (mul_lt g1.b1 g2.b1) (Nat.pow_le_pow_right (by decide) (by omega))
  b2 := Nat.lt_of_lt_of_le (mul_lt g1.b2 g2.b2) (Nat.pow_le_pow_right (by decide) (by omega))
/-- the due degree of a product is set -/
theorem second_ok {p q : List Rat} {a b c d e g h i : SV} {kf : KF} (hp : BdL 4 p) (hq : BdL 4 q) (tp : trimR p = p) (tq : trimR q = q) (np : p.length ≤ 7) (nq : q.length ≤ 7) (hm : BdL 70 (mulR p q))
    (hk : ∀ N : Nat, N ≤ 13 → (mulR p q).length = N → ex fe__law_is_sum x t9__law_is_sum [.src, .d (PT p), .d (PT q), .d (.int N), a, b, c, d, e, g, h] kf) :
    ex fe__law_is_sum x t8__law_is_sum [.src, .d (PT p), .d (PT q), i, a, b, c, d, e, g, h] kf := by
  simp [t8__law_is_sum]
  by_cases p0 : p = []
  · rw [if_pos p0]
    exact hk 0 (by omega) (by subst p0; rw [mul_nil]; rfl)
  · rw [if_neg p0]
    by_cases q0 : q = []
    · rw [if_pos q0]
      exact hk 0 (by omega) (by subst q0; rw [mul_nil']; rfl)
    · rw [if_neg q0]
      have lp : 0 < p.length := List.length_pos_iff.mpr p0
      have e : (p.length : Int) + q.length - 1 = ((p.length + q.length - 1 : Nat) : Int) := by omega
      rw [e]
      exact hk _ (by omega) (mul_len' tp tq p0 q0)
theorem is_sum_ok {p q : List Rat} (hp : BdL 4 p) (hq : BdL 4 q) (tp : trimR p = p) (tq : trimR q = q) (np : p.length ≤ 7) (nq : q.length ≤ 7) (hk : k (.d (.bool true))) : F__law_is_sum [.src, .d (PT p), .d (PT q)] k x := by
  have ha := add_bd hp hq
  have na := add_len p q
  have hm := (mul_bd hp hq).mono (show _ ≤ 70 by have := Nat.mul_le_mul_right (4 + 4 + 1) np; omega)
  have nm := mul_len p q
  simp [F__law_is_sum, runF, bt__law_is_sum, t0__law_is_sum]
  have e3 : b3 .max (b3 .max 0 (p.length : Int)) (q.length : Int) = ((max p.length q.length : Nat) : Int) := by
    unfold b3
    simp only
    split <;> split <;> omega
  rw [e3]
  simp [t1__law_is_sum, fe__law_is_sum]
  rw [show ((max p.length q.length : Nat) : Int) + 1 = ((max p.length q.length + 1 : Nat) : Int) by omega]
  generalize hN : max p.length q.length = N at *
  refine spots_ok (by omega) fun S hSl hS => ?_
  simp [t2__law_is_sum, t3__law_is_sum, isNo, wipeS]
  refine pairs_ok rfl hp hq np nq hS (by omega) (fun _ => rfl) (fun _ => rfl) (by simp) fun W hWl hW => ?_
  simp [t4__law_is_sum, t5__law_is_sum, isNo, wipeS]
  refine cmp_map (ys := (W.map fun w => (w.1.1 * w.2.2 + w.2.1 * w.1.2, w.1.2 * w.2.2)).map Pr) (by simp) (fun i a b e1 e2 => ?_) (by simpa using sz _ (by omega)) ?_
  · simp only [List.getElem?_map] at e1 e2
    cases hw : W[i]? with
    | none => rw [hw] at e1; cases e1
    | some w =>
      rw [hw] at e1 e2
      cases e1
      cases e2
      have hi : i < S.length := by rw [← hWl]; exact (List.getElem?_eq_some_iff.mp hw).1
      obtain ⟨g1, g2⟩ := hW i S[i] w (List.getElem?_eq_getElem hi) hw
      refine ⟨_, rfl, fun ka h => ?_⟩
      simp [szl]
      exact ⟨mul_ok g1.b1 g2.b2 (by omega), mul_ok g2.b1 g1.b2 (by omega), mul_ok g1.b2 g2.b2 (by omega), h⟩
  simp [t6__law_is_sum, t7__law_is_sum, fe__law_is_sum]
  refine added_ok hp hq (by omega) (by omega) ?_
  simp [fe__law_is_sum]
  rw [← List.map_map]
  refine made_ok (l := addR p q) (S := S) (W := W.map fun w => (w.1.1 * w.2.2 + w.2.1 * w.1.2, w.1.2 * w.2.2)) (a := 9) (size := N) (c := 150) (tr_add p q) (by omega) ha hS (by omega) (by omega) (fun i s w e1 e2 => ?_) ?_
  · rw [List.getElem?_map] at e2
    cases hw : W[i]? with
    | none => rw [hw] at e2; cases e2
    | some w' =>
      rw [hw] at e2
      cases e2
      obtain ⟨g1, g2⟩ := hW i s w' e1 hw
      exact g1.sum g2
  simp [fe__law_is_sum]
  refine added_ok hq hp (by omega) (by omega) ?_
  refine added_ok hp hq (by omega) (by omega) ?_
  rw [add_comm' q p]
  simp
  refine second_ok hp hq tp tq np nq hm fun M hM hl => ?_
  simp [t9__law_is_sum, fe__law_is_sum]
  rw [show (M : Int) + 1 = ((M + 1 : Nat) : Int) by omega]
  refine spots_ok (by omega) fun S hSl hS => ?_
  simp [t10__law_is_sum, t11__law_is_sum, isNo, wipeS]
  refine pairs_ok rfl hp hq np nq hS (by omega) (fun _ => rfl) (fun _ => rfl) (by simp) fun W hWl hW => ?_
  simp [t12__law_is_sum, t13__law_is_sum, fe__law_is_sum]
  refine multiplied_ok hp hq (by omega) (by omega) ?_
  simp [t14__law_is_sum, isNo, wipeS, fe__law_is_sum]
  refine cmp_map (ys := (W.map fun w => (w.1.1 * w.2.1, w.1.2 * w.2.2)).map Pr) (by simp) (fun i a b e1 e2 => ?_) (by simpa using sz _ (by omega)) ?_
  · simp only [List.getElem?_map] at e1 e2
    cases hw : W[i]? with
    | none => rw [hw] at e1; cases e1
    | some w =>
      rw [hw] at e1 e2
      cases e1
      cases e2
      have hi : i < S.length := by rw [← hWl]; exact (List.getElem?_eq_some_iff.mp hw).1
      obtain ⟨g1, g2⟩ := hW i S[i] w (List.getElem?_eq_getElem hi) hw
      refine ⟨_, rfl, fun ka h => ?_⟩
      simp [szl]
      exact ⟨mul_ok g1.b1 g2.b1 (by omega), mul_ok g1.b2 g2.b2 (by omega), h⟩
  rw [← List.map_map]
  refine made_ok (l := mulR p q) (S := S) (W := W.map fun w => (w.1.1 * w.2.1, w.1.2 * w.2.2)) (a := 70) (size := M) (c := 150) (tr_mul p q) (by omega) hm hS (by omega) (by omega) (fun i s w e1 e2 => ?_) ?_
  · rw [List.getElem?_map] at e2
    cases hw : W[i]? with
    | none => rw [hw] at e2; cases e2
    | some w' =>
      rw [hw] at e2
      cases e2
      obtain ⟨g1, g2⟩ := hW i s w' e1 hw
      exact g1.prod g2
  simp [hl, t15__law_is_sum, fe__law_is_sum]
  refine multiplied_ok hq hp (by have := Nat.mul_le_mul_right (4 + 4 + 1) nq; omega) (by omega) ?_
  rw [mul_comm' q p]
  have qm : ShowOk (PT (mulR p q)) := (pw_pt hm (by omega) (by omega)).ok (by omega) (by omega)
  simp
  exact ⟨qm, hk⟩
end
end Lk03
end
section
/-! k03: scaled, shifted, stretched; mates. -/
namespace Lk03
open PySem Un Pg Fa
section
variable {k : KA} {x : KX}
theorem cmp_vals {tg : Tg} {e : List SV → KA → Prop} {ρ : List SV} {P S : List Rat} {g : Rat → Rat} {c : Nat} {kl : List PyData → Prop} (hn : S.length ≤ 100)
    (h : ∀ s ∈ S, ∃ ρ1, tgt tg (Fr s) ρ = some ρ1 ∧ ∀ ka : KA, (∀ w, Vl P (g s) c w → ka (.d (Pr w))) → e ρ1 ka)
    (hk : ∀ W : List (Int × Int), W.length = S.length → (∀ (i : Nat) s w, S[i]? = some s → W[i]? = some w → Vl P (g s) c w) → kl (W.map Pr)) : cmpW tg none e ρ (PL S) [] kl := by
  refine cmp_rel (R := fun a y => ∀ s, a = Fr s → ∃ w, y = Pr w ∧ Vl P (g s) c w) (fun y hy => ?_) (by rw [PL_len]; simpa using sz _ (by omega)) fun ys hl hr => ?_
  · unfold PL at hy
    obtain ⟨s, hs, rfl⟩ := List.mem_map.mp hy
    obtain ⟨ρ1, h1, h2⟩ := h s hs
    refine ⟨ρ1, h1, fun ka hka => h2 ka fun w hw => hka _ _ rfl fun s' e => ?_⟩
    obtain rfl := Fr.inj e
    exact ⟨w, rfl, hw⟩
  · rw [PL_len] at hl
    obtain ⟨W, rfl, hW⟩ := choose_list (f := Pr) (Q := fun i w => ∀ s, S[i]? = some s → Vl P (g s) c w) (ys := ys) fun i y e => by
      have hi : i < S.length := by rw [← hl]; exact (List.getElem?_eq_some_iff.mp e).1
      have es : S[i]? = some S[i] := List.getElem?_eq_getElem hi
      obtain ⟨w, h3, h4⟩ := hr i _ y (PL_at es) e _ rfl
      exact ⟨w, h3, fun s e2 => by rw [es] at e2; cases e2; exact h4⟩
    rw [List.nil_append]
    exact hk W (by simpa using hl) fun i s w e1 e2 => hW i w e2 s e1
theorem pow_le' {a b n : Nat} (h : a ≤ 2 ^ b) : a ^ n ≤ 2 ^ (b * n) := by
  rw [Nat.pow_mul]
  exact Nat.pow_le_pow_left h n
theorem sh_gen {a : Nat} {p : List Rat} {f : Rat} (hp : BdL a p) (hf : Bd 4 f) (hn : p.length ≤ 7) : (∀ i m, i < p.length → BdL (8 * a + 70) (part f (shRows f p i) m)) ∧ BdL (8 * a + 70) (shR p f) := by
  have h1 := rp_dens hp
  have hd : dens p ≤ 2 ^ (a * 7) := Nat.le_trans (dens_lt hp) (Nat.pow_le_pow_right (by decide) (Nat.mul_le_mul_left _ hn))
  have f1 : f.den ^ 6 ≤ 2 ^ (4 * 6) := pow_le' (Nat.le_of_lt hf.2)
  have f2 : (f.den + (6 + 1) * f.num.natAbs) ^ 6 ≤ 2 ^ (7 * 6) := pow_le' (by have := hf.1; have := hf.2; omega)
  have e1 : dens p * f.den ^ 6 < 2 ^ (8 * a + 70) := by
    refine Nat.lt_of_le_of_lt (Nat.mul_le_mul hd f1) ?_
    rw [← Nat.pow_add]
    exact Nat.pow_lt_pow_right (by decide) (by omega)
  have e2 : 2 ^ a * dens p * (f.den + (6 + 1) * f.num.natAbs) ^ 6 < 2 ^ (8 * a + 70) := by
    refine Nat.lt_of_le_of_lt (Nat.mul_le_mul (Nat.mul_le_mul_left _ hd) f2) ?_
    rw [← Nat.pow_add, ← Nat.pow_add]
    exact Nat.pow_lt_pow_right (by decide) (by omega)
  exact ⟨fun i m hi => (sh_all h1 (n := 6) (by omega) i m (by omega)).bd e1 e2, (sh_rp h1 (n := 6) (by omega)).bd e1 e2⟩
theorem str0_len (p : List Rat) : (strR p 0).length ≤ 1 := by
  rcases of_trimmed (tr_str p 0) with h | h
  · omega
  · rw [cf_str] at h
    refine Nat.le_of_not_lt fun hl => h ?_
    have e : (strR p 0).length - 1 = ((strR p 0).length - 2) + 1 := by omega
    rw [e]
    show _ * (pwR 0 _ * 0) = 0
    grind
theorem fr_ne {f : Rat} : f.num = 0 ↔ f = 0 := Rat.num_eq_zero
theorem is_scaled_ok {p : List Rat} {f : Rat} (hp : BdL 4 p) (hf : Bd 4 f) (tp : trimR p = p) (np : p.length ≤ 7) (hk : k (.d (.bool true))) : F__law_is_scaled [.src, .d (PT p), .d (Fr f)] k x := by
  have h7 : ∀ c : Nat, p.length * c ≤ 7 * c := fun c => Nat.mul_le_mul_right c np
  have hc := sc_bd hp hf
  have nc := sc_len p f
  obtain ⟨hsh1, hsh⟩ := sh_gen hp hf np
  have nsh := sh_len p f
  have hst := (str_bd hp hf).mono (show _ ≤ 40 by have := h7 4; omega)
  have nst := str_len p f
  simp [F__law_is_scaled, runF, bt__law_is_scaled, t0__law_is_scaled, fe__law_is_scaled]
  rw [show (p.length : Int) + 1 = ((p.length + 1 : Nat) : Int) by omega]
  refine spots_ok (by omega) fun S hSl hS => ?_
  simp [t1__law_is_scaled, t2__law_is_scaled, isNo, wipeS]
  refine cmp_vals (P := p) (g := fun s => s) (c := 71) (by omega) (fun s hs => ⟨_, rfl, fun ka h => ?_⟩) fun W hWl hW => ?_
  · simp [fe__law_is_scaled]
    exact value_fr hp (hS s hs) (by have := h7 (4 + 5 + 1); omega) fun w hw => h w (hw.mono (by have := h7 (4 + 5 + 1); omega))
  simp [t3__law_is_scaled, t4__law_is_scaled, fr_ne]
  have step : ∀ {size : Int}, ((scR p f).length : Int) ≤ size → ex fe__law_is_scaled x t5__law_is_scaled [.src, .d (PT p), .d (Fr f), .d (.list (PL S)), .d (.list (W.map Pr)), .d (.int size), .un, .un, .un, .un, .un] (fun fl => match fl with | .nx _ => k (.d .none) | .rt a => leaveW a k | _ => False) := by
    intro size hsize
    simp [t5__law_is_scaled, isNo, wipeS, fe__law_is_scaled]
    refine scaled_ok hp hf (by omega) (by omega) ?_
    simp [isNo, wipeS, fe__law_is_scaled]
    refine cmp_map (ys := (W.map fun w => (f.num * w.1, (f.den : Int) * w.2)).map Pr) (by simp) (fun i a b e1 e2 => ?_) (by simpa using sz _ (by omega)) ?_
    · simp only [List.getElem?_map] at e1 e2
      cases hw : W[i]? with
      | none => rw [hw] at e1; cases e1
      | some w =>
        rw [hw] at e1 e2
        cases e1
        cases e2
        have hi : i < S.length := by rw [← hWl]; exact (List.getElem?_eq_some_iff.mp hw).1
        have g1 := hW i S[i] w (List.getElem?_eq_getElem hi) hw
        refine ⟨_, rfl, fun ka h => ?_⟩
        simp [szl]
        exact ⟨mul_ok hf.1 g1.b1 (by omega), mul_ok hf.dn g1.b2 (by omega), h⟩
    rw [List.nil_append]
    refine made_ok (l := scR p f) (S := S) (W := W.map fun w => (f.num * w.1, (f.den : Int) * w.2)) (a := 8) (size := size) (c := 80) (tr_sc p f) hsize hc hS (by omega) (by omega) (fun i s w e1 e2 => ?_) ?_
    · rw [List.getElem?_map] at e2
      cases hw : W[i]? with
      | none => rw [hw] at e2; cases e2
      | some w' =>
        rw [hw] at e2
        cases e2
        have g1 := hW i s w' e1 hw
        have p1 := g1.pos
        have p2 := f.den_pos
        refine ⟨Int.mul_pos (by omega) p1, ?_, Nat.lt_of_lt_of_le (mul_lt hf.1 g1.b1) (Nat.pow_le_pow_right (by decide) (by omega)), Nat.lt_of_lt_of_le (mul_lt hf.dn g1.b2) (Nat.pow_le_pow_right (by decide) (by omega))⟩
        rw [ev_sc, ← g1.val, Rat.mul_comm]
        conv => rhs; lhs; rw [← Rat.num_divInt_den f]
        rw [Rat.divInt_mul_divInt]
    simp [t6__law_is_scaled, isNo, wipeS]
    refine cmp_vals (P := shR p f) (g := fun s => s) (c := 120) (by omega) (fun s hs => ⟨_, rfl, fun ka h => ?_⟩) fun W2 hWl2 hW2 => ?_
    · have hs5 := hS s hs
      have p1 := s.den_pos
      have p2 := f.den_pos
      have m1 := mul_lt hs5.1 hf.dn
      have m2 := mul_lt hf.1 hs5.dn
      have m3 := mul_lt hs5.dn hf.dn
      simp [fe__law_is_scaled, szl]
      refine ⟨mul_ok hs5.1 hf.dn (by omega), mul_ok hf.1 hs5.dn (by omega), mul_ok hs5.dn hf.dn (by omega), ?_⟩
      refine value_ok (b := 10) hp (Int.mul_pos (by omega) (by omega)) (add_lt (a := 9) (b := 0) m1 (by rw [show 9 = 4 + 5 by rfl]; exact m2)) (Nat.lt_of_lt_of_le m3 (Nat.pow_le_pow_right (by decide) (by omega))) (by have := h7 (4 + 10 + 1); omega) fun w hw => h w ?_
      refine (show Vl (shR p f) s (p.length * (4 + 10 + 1) + 1) w from ⟨hw.pos, ?_, hw.b1, hw.b2⟩).mono (by have := h7 (4 + 10 + 1); omega)
      rw [hw.val, ev_sh, rat_add]
    simp [t7__law_is_scaled, t8__law_is_scaled, fe__law_is_scaled]
    refine shifted_okC hsh1 hf (by omega) (by omega) ?_
    simp [t9__law_is_scaled, fe__law_is_scaled]
    refine made_ok (l := shR p f) (S := S) (W := W2) (a := 102) (size := p.length) (c := 120) (tr_sh f tp) (by omega) hsh hS (by omega) (by omega) hW2 ?_
    simp [nsh]
    simp [t10__law_is_scaled, isNo, wipeS]
    refine cmp_vals (P := strR p f) (g := fun s => s) (c := 120) (by omega) (fun s hs => ⟨_, rfl, fun ka h => ?_⟩) fun W3 hWl3 hW3 => ?_
    · have hs5 := hS s hs
      have p1 := s.den_pos
      have p2 := f.den_pos
      have m1 := mul_lt hs5.1 hf.1
      have m3 := mul_lt hs5.dn hf.dn
      simp [fe__law_is_scaled, szl]
      refine ⟨mul_ok hs5.1 hf.1 (by omega), mul_ok hs5.dn hf.dn (by omega), ?_⟩
      refine value_ok (b := 10) hp (Int.mul_pos (by omega) (by omega)) (Nat.lt_of_lt_of_le m1 (Nat.pow_le_pow_right (by decide) (by omega))) (Nat.lt_of_lt_of_le m3 (Nat.pow_le_pow_right (by decide) (by omega))) (by have := h7 (4 + 10 + 1); omega) fun w hw => h w ?_
      refine (show Vl (strR p f) s (p.length * (4 + 10 + 1) + 1) w from ⟨hw.pos, ?_, hw.b1, hw.b2⟩).mono (by have := h7 (4 + 10 + 1); omega)
      rw [hw.val, ev_str, Rat.mul_comm f s, rat_mul]
    simp [t11__law_is_scaled, t12__law_is_scaled, fe__law_is_scaled]
    refine stretched_ok hp hf (by have := h7 4; omega) (by omega) ?_
    simp [t13__law_is_scaled, fe__law_is_scaled]
    have fin : ∀ u : SV, ex fe__law_is_scaled x t14__law_is_scaled [.src, .d (PT p), .d (Fr f), .d (.list (PL S)), .d (.list (W3.map Pr)), .d (.int size), .d (PT (strR p f)), .un, .un, .un, .un] (fun fl => match fl with | .nx _ => k (.d .none) | .rt a => leaveW a k | _ => False) := by
      intro u
      simp [t14__law_is_scaled, fe__law_is_scaled]
      refine scaled_ok hp hf (by omega) (by omega) ?_
      try simp [fe__law_is_scaled]
      refine shifted_okC hsh1 hf (by omega) (by omega) ?_
      try simp [fe__law_is_scaled]
      refine stretched_ok hp hf (by have := h7 4; omega) (by omega) ?_
      simp [szl]
      simp [t15__law_is_scaled, t16__law_is_scaled, fe__law_is_scaled]
      have Q : ShowOk (.list [PT (scR p f), PT (shR p f), PT (strR p f)]) := show_ok (by
        intro d hd
        simp only [List.mem_cons, List.not_mem_nil, or_false] at hd
        rcases hd with rfl | rfl | rfl
        · exact pw_pt hc (by omega) (by omega)
        · exact pw_pt hsh (by omega) (by omega)
        · exact pw_pt hst (by omega) (by omega)) (by simp)
      refine ⟨Q, ?_⟩
      refine scaled_ok hp hf (by omega) (by omega) ?_
      try simp [fe__law_is_scaled]
      refine shifted_okC hsh1 hf (by omega) (by omega) ?_
      simp [szl]
      exact ⟨Q, hk⟩
    have sized : ∀ {sz : Int}, ((strR p f).length : Int) ≤ sz → ∀ K : KA, K (.d (.bool true)) → F__law_is_made [.d (PT (strR p f)), .d (.int sz), .d (.list (PL S)), .d (.list (W3.map Pr))] K x := fun {sz} h K hK =>
      made_ok (l := strR p f) (S := S) (W := W3) (a := 40) (c := 120) (tr_str p f) h hst hS (by omega) (by omega) hW3 hK
    by_cases f0 : f = 0
    · rw [if_pos f0]
      refine sized (by have := str0_len p; rw [f0]; omega) _ ?_
      simp
      exact fin .un
    · rw [if_neg f0]
      refine sized (by omega) _ ?_
      simp
      exact fin .un
  by_cases f0 : f = 0
  · rw [if_pos f0]
    exact step (by subst f0; rw [sc_zero]; simp)
  · rw [if_neg f0]
    exact step (by omega)
end
end Lk03
end
section
/-! k03: there and back; the law. -/
namespace Lk03
open PySem Un Pg Fa
section
variable {k : KA} {x : KX}
theorem neg_Fr (q : Rat) : PyData.tuple [.int (-q.num), .int q.den] = Fr (-q) := by simp [Fr]
theorem bd_neg {q : Rat} {b : Nat} (h : Bd b q) : Bd b (-q) := ⟨by simpa using h.1, by simpa using h.2⟩
theorem cat_b {xs ys : List PyData} (h : xs.length + ys.length ≤ 1000) (hk : k (.new (xs ++ ys))) : w2 .add (.bor xs) (.new ys) k := ⟨_, _, rfl, rfl, sz _ h, hk⟩
theorem eM1 : PyData.tuple [.int (-1), .int 1] = Fr (-1) := rfl
theorem e2 : PyData.tuple [.int 2, .int 1] = Fr 2 := rfl
theorem mate_ok {p : List Rat} {n : Nat} (hp : BdL 4 p) (tp : trimR p = p) (np : p.length ≤ 7) (hn : n ≤ 100) (hk : ∀ q : List Rat, (q.length = n ∨ q.length = p.length) → BdL 4 q → trimR q = q → k (.d (PT q))) : F__law_mate [.src, .d (PT p), .d (.int n)] k x := by
  simp [F__law_mate, runF, bt__law_mate, t0__law_mate, fe__law_mate]
  have one : ∀ K : KA, (∀ q : List Rat, (q.length = n ∨ q.length = p.length) → BdL 4 q → trimR q = q → K (.d (PT q))) → F__law_poly [.src, .d (.int n), .d (.int 12)] K x := fun K h => poly_ok hn fun l h1 h2 h3 => h l (.inl h1) h2 h3
  by_cases p0 : p = []
  · rw [if_pos p0]
    exact one _ hk
  · rw [if_neg p0]
    have lp : 0 < p.length := List.length_pos_iff.mpr p0
    refine draw_ok (by decide) (by decide) fun r hr0 hr1 => ?_
    simp [fe__law_mate]
    split
    · exact one _ hk
    · simp [t1__law_mate, fe__law_mate]
      refine draw_ok (by omega) (by omega) fun s hs0 hs1 => ?_
      obtain ⟨m, rfl⟩ : ∃ m : Nat, s = m := ⟨s.toNat, by omega⟩
      simp [t2__law_mate, isNo, wipeS, RngOk]
      refine ⟨by omega, ?_⟩
      refine cmp_all (P := fun y => ∃ q, Bd 4 q ∧ y = Fr q) (fun y hy => ⟨_, rfl, fun ka h => ?_⟩) (by simpa [rngL] using sz m (by omega)) fun ys hl hpp => ?_
      · simp [fe__law_mate]
        exact fraction_ok fun q hq => h _ ⟨q, hq, rfl⟩
      obtain ⟨l, rfl, hl4⟩ := list_Fr hpp
      have hlm : l.length = m := by rw [PL_len] at hl; simpa [rngL] using hl
      simp [t3__law_mate, t4__law_mate, isNo, wipeS]
      have ec : cut (PL p) (some (m : Int)) none = PL (p.drop m) := by
        rw [cut_from _ _ (by rw [PL_len]; omega)]
        simp [PL, List.map_drop]
      unfold PT
      simp [ec]
      refine cmp_map (ys := PL ((p.drop m).map fun q => -q)) (by simp [PL]) (fun i a b e1 e2 => ?_) (by rw [PL_len]; exact sz _ (by simp; omega)) ?_
      · obtain ⟨q, hq, rfl⟩ := PL_get e1
        have e3 : ((p.drop m).map fun q => -q)[i]? = some (-q) := by rw [List.getElem?_map, hq] <;> rfl
        rw [PL_at e3] at e2
        cases e2
        refine ⟨_, rfl, fun ka h => ?_⟩
        simp [szl, szlt]
        rw [neg_Fr]
        exact h
      · rw [List.nil_append]
        refine cat_ln (by rw [PL_len, PL_len]; simp; omega) ?_
        simp
        have e4 : PL l ++ PL ((p.drop m).map fun q => -q) = PL (l ++ (p.drop m).map fun q => -q) := by simp [PL]
        rw [← List.map_drop, e4]
        refine hk (l ++ (p.drop m).map fun q => -q) (.inr (by simp; omega)) (fun q hq => ?_) ?_
        · rcases List.mem_append.mp hq with h | h
          · exact hl4 q h
          · obtain ⟨r, hr, rfl⟩ := List.mem_map.mp h
            exact bd_neg (hp r (List.mem_of_mem_drop hr))
        · obtain ⟨u, c, rfl, hc⟩ := last_ne tp p0
          have hmu : m ≤ u.length := by simp at hs1; omega
          rw [List.drop_append_of_le_length hmu, List.map_append, ← List.append_assoc]
          exact trimR_snoc (fun z => hc (by have : -c = 0 := z; grind)) _
theorem bd2 : Bd 2 (2 : Rat) := ⟨by decide, by decide⟩
theorem bdm1 : Bd 1 (-1 : Rat) := ⟨by decide, by decide⟩
/-- 1, or 1 and f -/
def oneF (f : Rat) : List Rat := if f = 0 then [1] else [1, f]
def noF (f : Rat) : List Rat := if f = 0 then [] else [0, f]
theorem back_eqs {p m : List Rat} {f : Rat} (tp : trimR p = p) (tm : trimR m = m) :
    shR (shR p f) (-f) = p ∧ addR p (scR p (-1)) = [] ∧ addR (addR p m) p = addR (scR p 2) m ∧
    mulR p (addR m (oneF f)) = addR (mulR m p) (addR p (if f = 0 then [] else mulR (noF f) p)) ∧ shR (addR p m) f = addR (shR p f) (shR m f) ∧ strR (addR p m) f = addR (strR p f) (strR m f) ∧
    addR p [] = p ∧ scR p 0 = [] := by
  refine ⟨?_, ?_, ?_, ?_, ?_, ?_, ?_, ?_⟩
  · refine eq_of_ev (tr_sh _ (tr_sh _ tp)) tp fun x => ?_
    rw [ev_sh, ev_sh]
    congr 1
    grind
  · refine eq_of_ev (tr_add _ _) rfl fun x => ?_
    rw [ev_add, ev_sc]
    show _ = (0 : Rat)
    grind
  · refine eq_of_ev (tr_add _ _) (tr_add _ _) fun x => ?_
    rw [ev_add, ev_add, ev_add, ev_sc]
    grind
  · refine eq_of_ev (tr_mul _ _) (tr_add _ _) fun x => ?_
    rw [ev_mul, ev_add, ev_add, ev_add, ev_mul]
    unfold oneF noF
    split
    · rename_i h
      show evR p x * (evR m x + (0 * x + 1)) = evR m x * evR p x + (evR p x + 0)
      grind
    · rw [ev_mul]
      show evR p x * (evR m x + ((0 * x + f) * x + 1)) = evR m x * evR p x + (evR p x + ((0 * x + f) * x + 0) * evR p x)
      grind
  · refine eq_of_ev (tr_sh _ (tr_add _ _)) (tr_add _ _) fun x => ?_
    rw [ev_sh, ev_add, ev_add, ev_sh, ev_sh]
  · refine eq_of_ev (tr_str _ _) (tr_add _ _) fun x => ?_
    rw [ev_str, ev_add, ev_add, ev_str, ev_str]
  · refine eq_of_ev (tr_add _ _) tp fun x => ?_
    rw [ev_add]
    show _ + (0 : Rat) = _
    grind
  · exact sc_zero p
theorem over_eqs {p : List Rat} {f : Rat} (tp : trimR p = p) (f0 : f ≠ 0) : strR (strR p f) (Rat.divInt f.den f.num) = p ∧ scR (scR p (Rat.divInt f.den f.num)) f = p := by
  have h : f * Rat.divInt f.den f.num = 1 := by
    have hn : f.num ≠ 0 := fun z => f0 (fr_ne.mp z)
    conv => lhs; lhs; rw [← Rat.num_divInt_den f]
    rw [Rat.divInt_mul_divInt, Int.mul_comm]
    have e : Rat.divInt ((f.den : Int) * f.num) ((f.den : Int) * f.num) = Rat.divInt 1 1 := (Rat.divInt_eq_divInt_iff (Int.mul_ne_zero (den_ne f) hn) (by decide)).mpr (by simp)
    rw [e]
    decide
  refine ⟨eq_of_ev (tr_str _ _) tp fun x => ?_, eq_of_ev (tr_sc _ _) tp fun x => ?_⟩
  · rw [ev_str, ev_str]
    congr 1
    grind
  · rw [ev_sc, ev_sc]
    grind

theorem is_back_ok {p m : List Rat} {f : Rat} (hp : BdL 4 p) (hm : BdL 4 m) (hf : Bd 4 f) (tp : trimR p = p) (tm : trimR m = m) (np : p.length ≤ 7) (nm : m.length ≤ 7) (hk : k (.d (.bool true))) :
    F__law_is_back [.d (PT p), .d (PT m), .d (Fr f)] k x := by
  obtain ⟨q1, q2, q3, q4, q5, q6, q7, q8⟩ := back_eqs (f := f) tp tm
  have h7 : ∀ c : Nat, p.length * c ≤ 7 * c := fun c => Nat.mul_le_mul_right c np
  have h7' : ∀ c : Nat, m.length * c ≤ 7 * c := fun c => Nat.mul_le_mul_right c nm
  obtain ⟨p1, p2⟩ := sh_gen hp hf np
  have n1 := sh_len p f
  obtain ⟨p3, p4⟩ := sh_gen p2 (bd_neg hf) (by omega)
  have n2 := sh_len (shR p f) (-f)
  have a1 := sc_bd hp bdm1
  have na1 := sc_len p (-1)
  have a2 := add_bd hp hm
  have na2 := add_len p m
  have a3 := sc_bd hp bd2
  have na3 := sc_len p 2
  have b0 : BdL 4 [] := fun _ h => nomatch h
  have o1 : BdL 4 (oneF f) := fun r hr => by
    unfold oneF at hr
    split at hr
    · rw [List.mem_singleton.mp hr]
      exact bd1.mono (by omega)
    · simp at hr
      rcases hr with rfl | rfl
      · exact bd1.mono (by omega)
      · exact hf
  have no1 : (oneF f).length ≤ 2 := by unfold oneF; split <;> simp
  have o2 : BdL 4 (noF f) := fun r hr => by
    unfold noF at hr
    split at hr
    · cases hr
    · simp at hr
      rcases hr with rfl | rfl
      · exact bd0.mono (by omega)
      · exact hf
  have no2 : (noF f).length ≤ 2 := by unfold noF; split <;> simp
  have a4 := add_bd hm o1
  have na4 := add_len m (oneF f)
  have a5 := (mul_bd hp a4).mono (show _ ≤ 110 by have := h7 (4 + (4 + 4 + 1) + 1); omega)
  have na5 := mul_len p (addR m (oneF f))
  have a6 := (mul_bd hm hp).mono (show _ ≤ 70 by have := h7' (4 + 4 + 1); omega)
  have na6 := mul_len m p
  have a7 := (mul_bd o2 hp).mono (show _ ≤ 20 by have := Nat.mul_le_mul_right (4 + 4 + 1) no2; omega)
  have na7 := mul_len (noF f) p
  obtain ⟨s1, s2⟩ := sh_gen a2 hf (by omega)
  have ns1 := sh_len (addR p m) f
  obtain ⟨s3, s4⟩ := sh_gen hm hf nm
  have ns3 := sh_len m f
  have t1 := (str_bd hp hf).mono (show _ ≤ 40 by have := h7 4; omega)
  have nt1 := str_len p f
  have t2 := (str_bd hm hf).mono (show _ ≤ 40 by have := h7' 4; omega)
  have nt2 := str_len m f
  have hn2 : ∀ c : Nat, (addR p m).length * c ≤ 7 * c := fun c => Nat.mul_le_mul_right c (by omega)
  have t3 := (str_bd a2 hf).mono (show _ ≤ 50 by have := hn2 4; omega)
  have nt3 := str_len (addR p m) f
  simp [F__law_is_back, runF, bt__law_is_back, t0__law_is_back, szl, szlt]
  rw [neg_Fr]
  simp [t1__law_is_back, fe__law_is_back, szl, szlt]
  refine shifted_okC p1 hf (by omega) (by omega) ?_
  try simp [fe__law_is_back, szl, szlt]
  refine shifted_okC p3 (bd_neg hf) (by omega) (by omega) ?_
  try simp [fe__law_is_back, szl, szlt]
  rw [eM1]
  refine scaled_ok hp bdm1 (by omega) (by omega) ?_
  try simp [fe__law_is_back, szl, szlt]
  refine added_ok hp a1 (by omega) (by omega) ?_
  try simp [fe__law_is_back, szl, szlt]
  refine added_ok hp hm (by omega) (by omega) ?_
  try simp [fe__law_is_back, szl, szlt]
  refine added_ok a2 hp (by omega) (by omega) ?_
  rw [q1, q2, q3]
  try simp [fe__law_is_back, szl, szlt]
  simp [t2__law_is_back, fe__law_is_back, szl, szlt]
  rw [e2]
  refine scaled_ok hp bd2 (by omega) (by omega) ?_
  try simp [fe__law_is_back, szl, szlt]
  refine added_ok a3 hm (by omega) (by omega) ?_
  try simp [fe__law_is_back, szl, szlt]
  have E9 : ∀ (L : List PyData) (u : SV), (∀ d ∈ L, Pw d) → L.length ≤ 20 → ex fe__law_is_back x t9__law_is_back [.d (PT p), .d (PT m), .d (Fr f), .d (Fr (-f)), .own L, .own L, u] (fun fl => match fl with | .nx _ => k (.d .none) | .rt a => leaveW a k | _ => False) := by
    intro L u hL hl
    have Q : ShowOk (.list L) := show_ok hL hl
    simp [t9__law_is_back]
    exact ⟨Q, hk⟩
  have wp : Pw (PT p) := pw_pt hp (by omega) (by omega)
  have w0 : Pw (PT []) := pw_pt b0 (by omega) (by simp)
  have w3 : Pw (PT (addR (scR p 2) m)) := by
    rw [← q3]
    exact pw_pt (add_bd a2 hp) (by omega) (by have := add_len (addR p m) p; omega)
  have w4 : Pw (PT (mulR p (addR m (oneF f)))) := pw_pt a5 (by omega) (by omega)
  have w5 : Pw (PT (addR (shR p f) (shR m f))) := by
    rw [← q5]
    exact pw_pt s2 (by omega) (by omega)
  have w6 : Pw (PT (addR (strR p f) (strR m f))) := by
    rw [← q6]
    exact pw_pt t3 (by omega) (by omega)
  have E8 : ex fe__law_is_back x t8__law_is_back [.d (PT p), .d (PT m), .d (Fr f), .d (Fr (-f)), .own [PT p, PT [], PT (addR (scR p 2) m), PT (mulR p (addR m (oneF f))), PT (addR (shR p f) (shR m f)), PT (addR (strR p f) (strR m f)), PT p, PT []], .own [PT p, PT [], PT (addR (scR p 2) m), PT (mulR p (addR m (oneF f))), PT (addR (shR p f) (shR m f)), PT (addR (strR p f) (strR m f)), PT p, PT []], .un] (fun fl => match fl with | .nx _ => k (.d .none) | .rt a => leaveW a k | _ => False) := by
    simp [t8__law_is_back, fr_ne]
    by_cases f0 : f = 0
    · rw [if_pos f0]
      refine E9 _ _ (fun d hd => ?_) (by simp)
      simp only [List.mem_cons, List.not_mem_nil, or_false] at hd
      rcases hd with rfl | rfl | rfl | rfl | rfl | rfl | rfl | rfl
      · exact wp
      · exact w0
      · exact w3
      · exact w4
      · exact w5
      · exact w6
      · exact wp
      · exact w0
    · rw [if_neg f0]
      have hn : f.num ≠ 0 := fun z => f0 (fr_ne.mp z)
      obtain ⟨v1, v2⟩ := over_eqs tp f0
      have hb : Bd 4 (Rat.divInt f.den f.num) := low_bd hf.dn hf.1 hn
      simp [t0__law_is_back_8a, fe__law_is_back]
      refine low_ok (m := 4) hn hf.1 (by decide) ?_
      have c1 := (str_bd t1 hb)
      have c2 := sc_bd hp hb
      have nc2 := sc_len p (Rat.divInt f.den f.num)
      simp [t1__law_is_back_8a, fe__law_is_back]
      refine stretched_ok hp hf (by have := h7 4; omega) (by omega) ?_
      try simp [fe__law_is_back, szl, szlt]
      refine stretched_ok t1 hb (by have := Nat.mul_le_mul_right 4 (show (strR p f).length ≤ 7 by omega); omega) (by omega) ?_
      rw [v1]
      try simp [fe__law_is_back, szl, szlt]
      refine scaled_ok hp hb (by omega) (by omega) ?_
      try simp [fe__law_is_back, szl, szlt]
      refine scaled_ok c2 hf (by omega) (by omega) ?_
      rw [v2]
      simp [szl, szlt]
      refine cat_b (by simp) ?_
      simp [t2__law_is_back_8a, szl, szlt]
      refine cat_b (by simp) ?_
      simp [t3__law_is_back_8a]
      refine E9 _ _ (fun d hd => ?_) (by simp)
      simp only [List.mem_cons, List.not_mem_nil, or_false] at hd
      rcases hd with rfl | rfl | rfl | rfl | rfl | rfl | rfl | rfl | rfl | rfl
      · exact wp
      · exact w0
      · exact w3
      · exact w4
      · exact w5
      · exact w6
      · exact wp
      · exact w0
      · exact wp
      · exact wp
  have E5 : ex fe__law_is_back x t5__law_is_back [.d (PT p), .d (PT m), .d (Fr f), .d (Fr (-f)), .own [PT p, PT [], PT (addR (scR p 2) m), PT (mulR p (addR m (oneF f)))], .own [PT p, PT [], PT (addR (scR p 2) m), PT (mulR p (addR m (oneF f)))], .un] (fun fl => match fl with | .nx _ => k (.d .none) | .rt a => leaveW a k | _ => False) := by
    simp [t5__law_is_back, fe__law_is_back, szl, szlt]
    refine added_ok hp hm (by omega) (by omega) ?_
    try simp [fe__law_is_back, szl, szlt]
    refine shifted_okC s1 hf (by omega) (by omega) ?_
    try simp [fe__law_is_back, szl, szlt]
    refine added_ok hp hm (by omega) (by omega) ?_
    try simp [fe__law_is_back, szl, szlt]
    refine stretched_ok a2 hf (by have := hn2 4; omega) (by omega) ?_
    simp [szl, szlt]
    refine cat_b (by simp) ?_
    simp [t6__law_is_back, fe__law_is_back, szl, szlt, e0, eF]
    refine added_ok hp b0 (by omega) (by simp; omega) ?_
    try simp [fe__law_is_back, szl, szlt]
    refine scaled_ok hp bd0 (by omega) (by omega) ?_
    simp [szl, szlt]
    refine cat_b (by simp) ?_
    simp [t7__law_is_back, fe__law_is_back, szl, szlt]
    refine shifted_okC p1 hf (by omega) (by omega) ?_
    try simp [fe__law_is_back, szl, szlt]
    refine shifted_okC s3 hf (by omega) (by omega) ?_
    try simp [fe__law_is_back, szl, szlt]
    refine added_ok p2 s4 (by omega) (by omega) ?_
    try simp [fe__law_is_back, szl, szlt]
    refine stretched_ok hp hf (by have := h7 4; omega) (by omega) ?_
    try simp [fe__law_is_back, szl, szlt]
    refine stretched_ok hm hf (by have := h7' 4; omega) (by omega) ?_
    try simp [fe__law_is_back, szl, szlt]
    refine added_ok t1 t2 (by omega) (by omega) ?_
    simp [szl, szlt]
    refine cat_b (by simp) ?_
    rw [q5, q6, q7, q8, e0]
    exact E8
  have E4 : ex fe__law_is_back x t4__law_is_back [.d (PT p), .d (PT m), .d (Fr f), .d (Fr (-f)), .own [PT p, PT [], PT (addR (scR p 2) m), PT (mulR p (addR m (oneF f)))], .own [PT p, PT [], PT (addR (scR p 2) m)], .un] (fun fl => match fl with | .nx _ => k (.d .none) | .rt a => leaveW a k | _ => False) := by
    simp [t4__law_is_back, fe__law_is_back, szl, szlt]
    refine multiplied_ok hm hp (by have := h7' 9; omega) (by omega) ?_
    simp [fe__law_is_back, szl, szlt, fr_ne]
    by_cases f0 : f = 0
    · rw [if_pos f0]
      rw [if_pos f0] at q4
      rw [e0]
      refine added_ok hp b0 (by omega) (by simp; omega) ?_
      try simp [fe__law_is_back, szl, szlt]
      refine added_ok a6 (add_bd hp b0) (by omega) (by have := add_len p []; simp at this; omega) ?_
      rw [← q4]
      simp [szl, szlt]
      exact E5
    · rw [if_neg f0]
      rw [if_neg f0] at q4
      have en : PyData.tuple [.tuple [.int 0, .int 1], Fr f] = PT (noF f) := by unfold noF; rw [if_neg f0]; rfl
      rw [en]
      refine multiplied_ok o2 hp (by omega) (by omega) ?_
      try simp [fe__law_is_back, szl, szlt]
      refine added_ok hp a7 (by omega) (by omega) ?_
      try simp [fe__law_is_back, szl, szlt]
      refine added_ok a6 (add_bd hp a7) (by omega) (by have := add_len p (mulR (noF f) p); omega) ?_
      rw [← q4]
      simp [szl, szlt]
      exact E5
  rw [e0]
  simp [t3__law_is_back, fe__law_is_back, szl, szlt, fr_ne]
  have F3 : ∀ d : PyData, d = PT (oneF f) → ∀ K : KA, K (.d (PT (addR m (oneF f)))) → F_added [.d (PT m), .d d] K x := fun d e K hK => by
    rw [e]
    exact added_ok hm o1 (by omega) (by omega) hK
  by_cases f0 : f = 0
  · rw [if_pos f0]
    refine F3 _ (by unfold oneF; rw [if_pos f0]; rfl) _ ?_
    try simp [fe__law_is_back, szl, szlt]
    refine multiplied_ok hp a4 (by have := h7 (4 + (4 + 4 + 1) + 1); omega) (by omega) ?_
    simp [szl, szlt]
    exact E4
  · rw [if_neg f0]
    refine F3 _ (by unfold oneF; rw [if_neg f0]; rfl) _ ?_
    try simp [fe__law_is_back, szl, szlt]
    refine multiplied_ok hp a4 (by have := h7 (4 + (4 + 4 + 1) + 1); omega) (by omega) ?_
    simp [szl, szlt]
    exact E4
end
end Lk03
end
section
/-! k03: the law. -/
namespace Lk03
open PySem Un Pg Fa
theorem spot_ok {k : KA} {f g : Rat} (hf : Bd 4 f) (hg : Bd 4 g) (hk : ∀ q, Bd 4 q → k (.d (Fr q))) :
    F__law_of [.src, .d (.list [.tuple [.int 0, .int 1], .tuple [.int 1, .int 1], .tuple [.int (-1), .int 1], Fr f, Fr g])] k noX := by
  refine of_ok (by simp) (by simp) fun y hy => ?_
  simp only [List.mem_cons, List.not_mem_nil, or_false] at hy
  rcases hy with rfl | rfl | rfl | rfl | rfl
  · exact hk 0 (bd0.mono (by omega))
  · exact hk 1 (bd1.mono (by omega))
  · exact hk (-1) ⟨by decide, by decide⟩
  · exact hk _ hf
  · exact hk _ hg
def q12 : Rat := Rat.divInt 1 2
theorem e12 : PyData.tuple [.int 1, .int 2] = Fr q12 := by
  have h1 : q12.num = 1 := by decide +kernel
  have h2 : q12.den = 2 := by decide +kernel
  unfold Fr
  rw [h1, h2]
  rfl
theorem body_ok {j : Nat} (hj : j < 4) {b c d e g : SV} {kf : KF} (hk : ∀ b c d e g, kf (.nx [.un, .src, .d (.int j), b, c, d, e, g])) :
    ex fe_law noX t0_law_0 [.un, .src, .d (.int j), b, c, d, e, g] kf := by
  have step : ∀ {w : Int}, 0 < w → w ≤ 7 → (j < 2 → w ≤ 7) → ex fe_law noX t1_law_0 [.un, .src, .d (.int j), .d (.int w), c, d, e, g] kf := by
    intro w w0 w7 _
    have rest : ∀ p : List Rat, p.length ≤ 7 → BdL 4 p → trimR p = p → ex fe_law noX t2_law_0 [.un, .src, .d (.int j), .d (.int w), .d (PT p), d, e, g] kf := by
      intro p np hp tp
      simp [t2_law_0, fe_law]
      refine draw_ok w0 (by omega) fun r hr0 hr1 => ?_
      obtain ⟨n, rfl⟩ : ∃ n : Nat, r = n := ⟨r.toNat, by omega⟩
      simp [fe_law]
      rw [show (n : Int) + 1 = ((n + 1 : Nat) : Int) by omega]
      refine mate_ok hp tp np (by omega) fun m nm hm tm => ?_
      have nm : m.length ≤ 7 := by omega
      simp [t3_law_0, fe_law, szl]
      refine fraction_ok fun f1 hf1 => ?_
      simp [fe_law, szl]
      refine fraction_ok fun f2 hf2 => ?_
      simp [fe_law, szl]
      refine spot_ok hf1 hf2 fun f hf => ?_
      simp [t4_law_0, fe_law]
      refine is_sum_ok hp hm tp tm np nm ?_
      try simp [fe_law]
      refine is_scaled_ok hp hf tp np ?_
      simp [t5_law_0, fe_law, szl]
      refine fraction_ok fun f3 hf3 => ?_
      simp [szl]
      rw [eF, eF1]
      refine loop_inv (fun _ ρ => ∃ y, ρ = [.un, .src, .d (.int j), .d (.int w), .d (PT p), .d (PT m), .d (Fr f), y]) (i := 0) ⟨_, rfl⟩ (fun i y ρ hy hI => ?_) fun ρ hI => ?_
      · obtain ⟨u, rfl⟩ := hI
        obtain ⟨s, hs, rfl⟩ : ∃ s, Bd 4 s ∧ y = Fr s := by
          have := List.mem_of_getElem? hy
          simp only [List.mem_cons, List.not_mem_nil, or_false] at this
          rcases this with rfl | rfl | rfl | rfl
          · exact ⟨_, hf, rfl⟩
          · exact ⟨_, hf3, rfl⟩
          · exact ⟨_, bd0.mono (by omega), rfl⟩
          · exact ⟨_, bd1.mono (by omega), rfl⟩
        refine ⟨_, rfl, fun kf2 h => ?_⟩
        simp [fe_law]
        refine is_at_ok hp hs np ?_
        try simp [fe_law]
        refine is_at_ok hm hs nm ?_
        simp
        exact h _ ⟨_, rfl⟩
      · obtain ⟨u, rfl⟩ := hI
        simp [t6_law_0, fe_law]
        split
        · simp [t7_law_0]
          exact hk _ _ _ _ _
        · refine is_back_ok hp hm hf tp tm np nm ?_
          simp [t7_law_0]
          exact hk _ _ _ _ _
    simp [t1_law_0, fe_law]
    refine draw_ok w0 (by omega) fun r hr0 hr1 => ?_
    obtain ⟨n, rfl⟩ : ∃ n : Nat, r = n := ⟨r.toNat, by omega⟩
    simp [fe_law]
    split
    · rw [show (n : Int) + 1 = ((n + 1 : Nat) : Int) by omega]
      exact poly_ok (by omega) fun p np hp tp => rest p (by omega) hp tp
    · exact poly_ok (by omega) fun p np hp tp => rest p (by omega) hp tp
  simp [t0_law_0]
  split
  · exact step (by decide) (by decide) (by omega)
  · exact step (by decide) (by decide) (by omega)
theorem law_good : ex fe_law noX b_law (ρLaw (n_law.length - 2)) fun fl => fl = .rt (.d (.bool true)) := by
  rw [bt_law]
  simp [t0_law, ρLaw, RngOk, List.replicate]
  refine loop_inv (fun _ ρ => ∃ a b c d e g, ρ = [.un, .src, a, b, c, d, e, g]) (i := 0) ⟨_, _, _, _, _, _, rfl⟩ (fun j y ρ hy hI => ?_) fun ρ hI => ?_
  · obtain ⟨a, b, c, d, e, g, rfl⟩ := hI
    obtain ⟨hj, rfl⟩ := rng_get hy
    refine ⟨_, rfl, fun kf hk => ?_⟩
    simp
    exact body_ok hj fun b c d e g => hk _ ⟨_, _, _, _, _, _, rfl⟩
  · obtain ⟨a, b, c, d, e, g, rfl⟩ := hI
    have b0 : BdL 4 [] := fun _ h => nomatch h
    have hb : Bd 4 q12 := low_bd (by decide) (by decide) (by decide)
    simp [t1_law, fe_law, szl, e0, eF, e12]
    refine added_ok b0 b0 (by omega) (by simp) ?_
    try simp [fe_law, szl]
    refine multiplied_ok b0 b0 (by simp) (by simp) ?_
    try simp [fe_law, szl]
    refine shifted_okC (C := 4) (fun i m h => by simp at h) hb (by omega) (by simp) ?_
    try simp [fe_law, szl]
    refine stretched_ok b0 bd0 (by simp) (by simp) ?_
    have Q : ShowOk (.list [PT [], PT [], PT [], PT []]) := show_ok (by
      intro d hd
      simp only [List.mem_cons, List.not_mem_nil, or_false, or_self] at hd
      rw [hd]
      exact pw_pt b0 (by omega) (by simp)) (by simp)
    have w0 : addR [] [] = [] := rfl
    have w1 : mulR [] [] = [] := mul_nil _
    have w2 : shR [] q12 = [] := rfl
    have w3 : strR [] 0 = [] := rfl
    rw [w0, w1, w2, w3]
    simp [szl]
    refine ⟨Q, rep_n (m := 4) rfl (by decide) (by simp) ?_⟩
    simp
    exact Q
end Lk03
end
section
/-! k03: the text in the pure language (printed). -/
namespace Lk03
open PySem PySem.Spec PyProof.Rows L2 Un Pg Fa
def top (i : Nat) : Stmt := PySem.Challenge.pw_unsureworks_k03_polynomials_by_their_val.main.body.getD i (.Pass ⟨0, 0, 0, 0⟩)
abbrev FnP (K : PySem.W.Frag) (x : Str) (st : Stmt) (f : Addr) (fd : FuncData) : Prop := FunD K x x (defArgs st) (defBody st) (defScope st) [] [] f fd
abbrev nc_lowest : Nc := ⟨n_lowest, [], [], true, 0⟩
theorem sc_lowest : FnScope n_lowest ["top", "bottom"] (defScope (top 4)) := ⟨rfl, rfl, rfl, by decide +kernel, rfl, by decide +kernel, by decide +kernel⟩
theorem ck_lowest : (chkS nc_lowest (defScope (top 4)) b_lowest).b (defBody (top 4)) = true := by decide +kernel
abbrev nc_plus : Nc := ⟨n_plus, [⟨1, "lowest", 2, [], [0, 1]⟩], [], false, 1⟩
theorem sc_plus : FnScope n_plus ["f", "g"] (defScope (top 5)) := ⟨rfl, rfl, rfl, by decide +kernel, rfl, by decide +kernel, by decide +kernel⟩
theorem ck_plus : (chkS nc_plus (defScope (top 5)) b_plus).b (defBody (top 5)) = true := by decide +kernel
abbrev nc_times : Nc := ⟨n_times, [⟨1, "lowest", 2, [], [0, 1]⟩], [], false, 1⟩
theorem sc_times : FnScope n_times ["f", "g"] (defScope (top 6)) := ⟨rfl, rfl, rfl, by decide +kernel, rfl, by decide +kernel, by decide +kernel⟩
theorem ck_times : (chkS nc_times (defScope (top 6)) b_times).b (defBody (top 6)) = true := by decide +kernel
abbrev nc_trimmed : Nc := ⟨n_trimmed, [], [("NOUGHT", (.tuple [(.int 0), (.int 1)]))], false, 0⟩
theorem sc_trimmed : FnScope n_trimmed ["factors"] (defScope (top 8)) := ⟨rfl, rfl, rfl, by decide +kernel, rfl, by decide +kernel, by decide +kernel⟩
theorem ck_trimmed : (chkS nc_trimmed (defScope (top 8)) b_trimmed).b (defBody (top 8)) = true := by decide +kernel
abbrev nc_at : Nc := ⟨n_at, [⟨2, "plus", 2, [], [0, 1]⟩, ⟨3, "times", 2, [], [0, 1]⟩], [("NOUGHT", (.tuple [(.int 0), (.int 1)]))], false, 2⟩
theorem sc_at : FnScope n_at ["p", "f"] (defScope (top 9)) := ⟨rfl, rfl, rfl, by decide +kernel, rfl, by decide +kernel, by decide +kernel⟩
theorem ck_at : (chkS nc_at (defScope (top 9)) b_at).b (defBody (top 9)) = true := by decide +kernel
abbrev nc_added : Nc := ⟨n_added, [⟨2, "plus", 2, [], [0, 1]⟩, ⟨4, "trimmed", 1, [], [0]⟩], [], false, 2⟩
theorem sc_added : FnScope n_added ["p", "q"] (defScope (top 10)) := ⟨rfl, rfl, rfl, by decide +kernel, rfl, by decide +kernel, by decide +kernel⟩
theorem ck_added : (chkS nc_added (defScope (top 10)) b_added).b (defBody (top 10)) = true := by decide +kernel
abbrev nc_multiplied : Nc := ⟨n_multiplied, [⟨2, "plus", 2, [], [0, 1]⟩, ⟨3, "times", 2, [], [0, 1]⟩, ⟨4, "trimmed", 1, [], [0]⟩], [("NOUGHT", (.tuple [(.int 0), (.int 1)]))], false, 2⟩
theorem sc_multiplied : FnScope n_multiplied ["p", "q"] (defScope (top 11)) := ⟨rfl, rfl, rfl, by decide +kernel, rfl, by decide +kernel, by decide +kernel⟩
theorem ck_multiplied : (chkS nc_multiplied (defScope (top 11)) b_multiplied).b (defBody (top 11)) = true := by decide +kernel
abbrev nc_scaled : Nc := ⟨n_scaled, [⟨4, "trimmed", 1, [], [0]⟩, ⟨3, "times", 2, [], [0, 1]⟩], [], false, 2⟩
theorem sc_scaled : FnScope n_scaled ["p", "f"] (defScope (top 12)) := ⟨rfl, rfl, rfl, by decide +kernel, rfl, by decide +kernel, by decide +kernel⟩
theorem ck_scaled : (chkS nc_scaled (defScope (top 12)) b_scaled).b (defBody (top 12)) = true := by decide +kernel
abbrev nc_shifted : Nc := ⟨n_shifted, [⟨2, "plus", 2, [], [0, 1]⟩, ⟨3, "times", 2, [], [0, 1]⟩], [], false, 2⟩
theorem sc_shifted : FnScope n_shifted ["p", "f"] (defScope (top 13)) := ⟨rfl, rfl, rfl, by decide +kernel, rfl, by decide +kernel, by decide +kernel⟩
theorem ck_shifted : (chkS nc_shifted (defScope (top 13)) b_shifted).b (defBody (top 13)) = true := by decide +kernel
abbrev nc_stretched : Nc := ⟨n_stretched, [⟨3, "times", 2, [], [0, 1]⟩, ⟨4, "trimmed", 1, [], [0]⟩], [("ONE", (.tuple [(.int 1), (.int 1)]))], false, 2⟩
theorem sc_stretched : FnScope n_stretched ["p", "f"] (defScope (top 14)) := ⟨rfl, rfl, rfl, by decide +kernel, rfl, by decide +kernel, by decide +kernel⟩
theorem ck_stretched : (chkS nc_stretched (defScope (top 14)) b_stretched).b (defBody (top 14)) = true := by decide +kernel
abbrev nc__law_of : Nc := ⟨n__law_of, [⟨0, "_law_draw", 2, [], [0, 1]⟩], [], false, 1⟩
theorem sc__law_of : FnScope n__law_of ["_law_source_here", "_law_row"] (defScope (top 18)) := ⟨rfl, rfl, rfl, by decide +kernel, rfl, by decide +kernel, by decide +kernel⟩
theorem ck__law_of : (chkS nc__law_of (defScope (top 18)) b__law_of).b (defBody (top 18)) = true := by decide +kernel
abbrev nc__law_divisor : Nc := ⟨n__law_divisor, [], [], false, 0⟩
theorem sc__law_divisor : FnScope n__law_divisor ["_law_a", "_law_b"] (defScope (top 19)) := ⟨rfl, rfl, rfl, by decide +kernel, rfl, by decide +kernel, by decide +kernel⟩
theorem ck__law_divisor : (chkS nc__law_divisor (defScope (top 19)) b__law_divisor).b (defBody (top 19)) = true := by decide +kernel
abbrev nc__law_is_fraction : Nc := ⟨n__law_is_fraction, [⟨28, "_law_divisor", 2, [], [0, 1]⟩], [], false, 1⟩
theorem sc__law_is_fraction : FnScope n__law_is_fraction ["_law_thing"] (defScope (top 20)) := ⟨rfl, rfl, rfl, by decide +kernel, rfl, by decide +kernel, by decide +kernel⟩
theorem ck__law_is_fraction : (chkS nc__law_is_fraction (defScope (top 20)) b__law_is_fraction).b (defBody (top 20)) = true := by decide +kernel
abbrev nc__law_lowest : Nc := ⟨n__law_lowest, [], [], false, 0⟩
theorem sc__law_lowest : FnScope n__law_lowest ["_law_up", "_law_down"] (defScope (top 21)) := ⟨rfl, rfl, rfl, by decide +kernel, rfl, by decide +kernel, by decide +kernel⟩
theorem ck__law_lowest : (chkS nc__law_lowest (defScope (top 21)) b__law_lowest).b (defBody (top 21)) = true := by decide +kernel
abbrev nc__law_fraction : Nc := ⟨n__law_fraction, [⟨0, "_law_draw", 2, [], [0, 1]⟩, ⟨13, "_law_of", 2, [], [0, 1]⟩, ⟨14, "_law_lowest", 2, [], [0, 1]⟩], [], false, 2⟩
theorem sc__law_fraction : FnScope n__law_fraction ["_law_source_here", "_law_most"] (defScope (top 22)) := ⟨rfl, rfl, rfl, by decide +kernel, rfl, by decide +kernel, by decide +kernel⟩
theorem ck__law_fraction : (chkS nc__law_fraction (defScope (top 22)) b__law_fraction).b (defBody (top 22)) = true := by decide +kernel
abbrev nc__law_poly : Nc := ⟨n__law_poly, [⟨0, "_law_draw", 2, [], [0, 1]⟩, ⟨17, "_law_fraction", 2, [], [0, 1]⟩, ⟨14, "_law_lowest", 2, [], [0, 1]⟩], [], false, 3⟩
theorem sc__law_poly : FnScope n__law_poly ["_law_source_here", "_law_size", "_law_most"] (defScope (top 23)) := ⟨rfl, rfl, rfl, by decide +kernel, rfl, by decide +kernel, by decide +kernel⟩
theorem ck__law_poly : (chkS nc__law_poly (defScope (top 23)) b__law_poly).b (defBody (top 23)) = true := by decide +kernel
abbrev nc__law_value : Nc := ⟨n__law_value, [], [], false, 0⟩
theorem sc__law_value : FnScope n__law_value ["_law_poly_here", "_law_spot"] (defScope (top 24)) := ⟨rfl, rfl, rfl, by decide +kernel, rfl, by decide +kernel, by decide +kernel⟩
theorem ck__law_value : (chkS nc__law_value (defScope (top 24)) b__law_value).b (defBody (top 24)) = true := by decide +kernel
abbrev nc__law_is_poly : Nc := ⟨n__law_is_poly, [⟨29, "_law_is_fraction", 1, [], [0]⟩], [], false, 2⟩
theorem sc__law_is_poly : FnScope n__law_is_poly ["_law_thing"] (defScope (top 25)) := ⟨rfl, rfl, rfl, by decide +kernel, rfl, by decide +kernel, by decide +kernel⟩
theorem ck__law_is_poly : (chkS nc__law_is_poly (defScope (top 25)) b__law_is_poly).b (defBody (top 25)) = true := by decide +kernel
abbrev nc__law_spots : Nc := ⟨n__law_spots, [⟨0, "_law_draw", 2, [], [0, 1]⟩, ⟨13, "_law_of", 2, [], [0, 1]⟩, ⟨14, "_law_lowest", 2, [], [0, 1]⟩], [], false, 2⟩
theorem sc__law_spots : FnScope n__law_spots ["_law_source_here", "_law_many"] (defScope (top 26)) := ⟨rfl, rfl, rfl, by decide +kernel, rfl, by decide +kernel, by decide +kernel⟩
theorem ck__law_spots : (chkS nc__law_spots (defScope (top 26)) b__law_spots).b (defBody (top 26)) = true := by decide +kernel
abbrev nc__law_is_made : Nc := ⟨n__law_is_made, [⟨30, "_law_is_poly", 1, [], [0]⟩, ⟨20, "_law_value", 2, [], [0, 1]⟩], [], false, 3⟩
theorem sc__law_is_made : FnScope n__law_is_made ["_law_found", "_law_size", "_law_spots_here", "_law_dues"] (defScope (top 27)) := ⟨rfl, rfl, rfl, by decide +kernel, rfl, by decide +kernel, by decide +kernel⟩
theorem ck__law_is_made : (chkS nc__law_is_made (defScope (top 27)) b__law_is_made).b (defBody (top 27)) = true := by decide +kernel
abbrev nc__law_mate : Nc := ⟨n__law_mate, [⟨0, "_law_draw", 2, [], [0, 1]⟩, ⟨18, "_law_poly", 3, [], [0, 1, 2]⟩, ⟨17, "_law_fraction", 2, [], [0, 1]⟩], [], false, 4⟩
theorem sc__law_mate : FnScope n__law_mate ["_law_source_here", "_law_poly_here", "_law_size"] (defScope (top 28)) := ⟨rfl, rfl, rfl, by decide +kernel, rfl, by decide +kernel, by decide +kernel⟩
theorem ck__law_mate : (chkS nc__law_mate (defScope (top 28)) b__law_mate).b (defBody (top 28)) = true := by decide +kernel
abbrev nc__law_is_sum : Nc := ⟨n__law_is_sum, [⟨31, "_law_spots", 2, [], [0, 1]⟩, ⟨20, "_law_value", 2, [], [0, 1]⟩, ⟨32, "_law_is_made", 4, [], [0, 1, 2, 3]⟩, ⟨6, "added", 2, [], [0, 1]⟩, ⟨6, "added", 0, ["q", "p"], [1, 0]⟩, ⟨7, "multiplied", 0, ["q", "p"], [1, 0]⟩, ⟨7, "multiplied", 2, [], [0, 1]⟩], [], false, 4⟩
theorem sc__law_is_sum : FnScope n__law_is_sum ["_law_source_here", "_law_poly_here", "_law_mate_here"] (defScope (top 29)) := ⟨rfl, rfl, rfl, by decide +kernel, rfl, by decide +kernel, by decide +kernel⟩
theorem ck__law_is_sum : (chkS nc__law_is_sum (defScope (top 29)) b__law_is_sum).b (defBody (top 29)) = true := by decide +kernel
abbrev nc__law_is_scaled : Nc := ⟨n__law_is_scaled, [⟨31, "_law_spots", 2, [], [0, 1]⟩, ⟨20, "_law_value", 2, [], [0, 1]⟩, ⟨32, "_law_is_made", 4, [], [0, 1, 2, 3]⟩, ⟨8, "scaled", 2, [], [0, 1]⟩, ⟨11, "shifted", 2, [], [0, 1]⟩, ⟨12, "stretched", 2, [], [0, 1]⟩, ⟨8, "scaled", 0, ["f", "p"], [1, 0]⟩, ⟨11, "shifted", 0, ["f", "p"], [1, 0]⟩, ⟨12, "stretched", 0, ["f", "p"], [1, 0]⟩], [], false, 4⟩
theorem sc__law_is_scaled : FnScope n__law_is_scaled ["_law_source_here", "_law_poly_here", "_law_by"] (defScope (top 30)) := ⟨rfl, rfl, rfl, by decide +kernel, rfl, by decide +kernel, by decide +kernel⟩
theorem ck__law_is_scaled : (chkS nc__law_is_scaled (defScope (top 30)) b__law_is_scaled).b (defBody (top 30)) = true := by decide +kernel
abbrev nc__law_is_back : Nc := ⟨n__law_is_back, [⟨11, "shifted", 2, [], [0, 1]⟩, ⟨6, "added", 2, [], [0, 1]⟩, ⟨8, "scaled", 2, [], [0, 1]⟩, ⟨7, "multiplied", 2, [], [0, 1]⟩, ⟨12, "stretched", 2, [], [0, 1]⟩, ⟨14, "_law_lowest", 2, [], [0, 1]⟩], [], false, 3⟩
theorem sc__law_is_back : FnScope n__law_is_back ["_law_poly_here", "_law_mate_here", "_law_by"] (defScope (top 31)) := ⟨rfl, rfl, rfl, by decide +kernel, rfl, by decide +kernel, by decide +kernel⟩
theorem ck__law_is_back : (chkS nc__law_is_back (defScope (top 31)) b__law_is_back).b (defBody (top 31)) = true := by decide +kernel
abbrev nc__law_is_at : Nc := ⟨n__law_is_at, [⟨20, "_law_value", 2, [], [0, 1]⟩, ⟨5, "at", 2, [], [0, 1]⟩, ⟨5, "at", 0, ["f", "p"], [1, 0]⟩, ⟨14, "_law_lowest", 2, [], [0, 1]⟩], [], false, 3⟩
theorem sc__law_is_at : FnScope n__law_is_at ["_law_poly_here", "_law_spot"] (defScope (top 32)) := ⟨rfl, rfl, rfl, by decide +kernel, rfl, by decide +kernel, by decide +kernel⟩
theorem ck__law_is_at : (chkS nc__law_is_at (defScope (top 32)) b__law_is_at).b (defBody (top 32)) = true := by decide +kernel
abbrev nc_law : Nc := ⟨n_law, [⟨18, "_law_poly", 3, [], [0, 1, 2]⟩, ⟨0, "_law_draw", 2, [], [0, 1]⟩, ⟨33, "_law_mate", 3, [], [0, 1, 2]⟩, ⟨13, "_law_of", 2, [], [0, 1]⟩, ⟨17, "_law_fraction", 2, [], [0, 1]⟩, ⟨34, "_law_is_sum", 3, [], [0, 1, 2]⟩, ⟨35, "_law_is_scaled", 3, [], [0, 1, 2]⟩, ⟨26, "_law_is_at", 2, [], [0, 1]⟩, ⟨36, "_law_is_back", 3, [], [0, 1, 2]⟩, ⟨6, "added", 2, [], [0, 1]⟩, ⟨7, "multiplied", 2, [], [0, 1]⟩, ⟨11, "shifted", 2, [], [0, 1]⟩, ⟨12, "stretched", 2, [], [0, 1]⟩], [], false, 5⟩
theorem sc_law : FnScope n_law ["_law_script"] (defScope (top 33)) := ⟨rfl, rfl, rfl, by decide +kernel, rfl, by decide +kernel, by decide +kernel⟩
theorem ck_law : (chkS nc_law (defScope (top 33)) b_law).b (defBody (top 33)).tail = true := by decide +kernel
def nSrc : List Str := ["_law_script", "_law_deep", "_law_small", "_law_fold", "_law_cell", "_law_own"]
theorem scSrc : FnScope nSrc ["_law_script"] (defScope (top 16)) := ⟨rfl, rfl, rfl, by decide +kernel, rfl, by decide +kernel, by decide +kernel⟩
/-! ### the facts of the head -/
structure Facts (K : PySem.W.Frag) (mg : Str → Option Value) : Prop where
  gb : ∀ x ∈ bltNames, mg x = none
  dm : mg "divmod" = none
  gcd : mg "gcd" = some (.builtin "math.gcd")
  c_NOUGHT : ∃ u v, mg "NOUGHT" = some u ∧ RelV v u ∧ ∀ H, Dq K H v (.tuple [(.int 0), (.int 1)])
  c_ONE : ∃ u v, mg "ONE" = some u ∧ RelV v u ∧ ∀ H, Dq K H v (.tuple [(.int 1), (.int 1)])
  d_lowest : ∃ fd, FnP K "lowest" (top 4) (He.ga K "lowest") fd
  m_lowest : mg "lowest" = some (.ref (He.ga K "lowest"))
  d_plus : ∃ fd, FnP K "plus" (top 5) (He.ga K "plus") fd
  m_plus : mg "plus" = some (.ref (He.ga K "plus"))
  d_times : ∃ fd, FnP K "times" (top 6) (He.ga K "times") fd
  m_times : mg "times" = some (.ref (He.ga K "times"))
  d_trimmed : ∃ fd, FnP K "trimmed" (top 8) (He.ga K "trimmed") fd
  m_trimmed : mg "trimmed" = some (.ref (He.ga K "trimmed"))
  d_at : ∃ fd, FnP K "at" (top 9) (He.ga K "at") fd
  m_at : mg "at" = some (.ref (He.ga K "at"))
  d_added : ∃ fd, FnP K "added" (top 10) (He.ga K "added") fd
  m_added : mg "added" = some (.ref (He.ga K "added"))
  d_multiplied : ∃ fd, FnP K "multiplied" (top 11) (He.ga K "multiplied") fd
  m_multiplied : mg "multiplied" = some (.ref (He.ga K "multiplied"))
  d_scaled : ∃ fd, FnP K "scaled" (top 12) (He.ga K "scaled") fd
  m_scaled : mg "scaled" = some (.ref (He.ga K "scaled"))
  d_shifted : ∃ fd, FnP K "shifted" (top 13) (He.ga K "shifted") fd
  m_shifted : mg "shifted" = some (.ref (He.ga K "shifted"))
  d_stretched : ∃ fd, FnP K "stretched" (top 14) (He.ga K "stretched") fd
  m_stretched : mg "stretched" = some (.ref (He.ga K "stretched"))
  d__law_source : ∃ fd, FnP K "_law_source" (top 16) (He.ga K "_law_source") fd
  m__law_source : mg "_law_source" = some (.ref (He.ga K "_law_source"))
  d__law_draw : ∃ fd, FnP K "_law_draw" (top 17) (He.ga K "_law_draw") fd
  m__law_draw : mg "_law_draw" = some (.ref (He.ga K "_law_draw"))
  d__law_of : ∃ fd, FnP K "_law_of" (top 18) (He.ga K "_law_of") fd
  m__law_of : mg "_law_of" = some (.ref (He.ga K "_law_of"))
  d__law_divisor : ∃ fd, FnP K "_law_divisor" (top 19) (He.ga K "_law_divisor") fd
  m__law_divisor : mg "_law_divisor" = some (.ref (He.ga K "_law_divisor"))
  d__law_is_fraction : ∃ fd, FnP K "_law_is_fraction" (top 20) (He.ga K "_law_is_fraction") fd
  m__law_is_fraction : mg "_law_is_fraction" = some (.ref (He.ga K "_law_is_fraction"))
  d__law_lowest : ∃ fd, FnP K "_law_lowest" (top 21) (He.ga K "_law_lowest") fd
  m__law_lowest : mg "_law_lowest" = some (.ref (He.ga K "_law_lowest"))
  d__law_fraction : ∃ fd, FnP K "_law_fraction" (top 22) (He.ga K "_law_fraction") fd
  m__law_fraction : mg "_law_fraction" = some (.ref (He.ga K "_law_fraction"))
  d__law_poly : ∃ fd, FnP K "_law_poly" (top 23) (He.ga K "_law_poly") fd
  m__law_poly : mg "_law_poly" = some (.ref (He.ga K "_law_poly"))
  d__law_value : ∃ fd, FnP K "_law_value" (top 24) (He.ga K "_law_value") fd
  m__law_value : mg "_law_value" = some (.ref (He.ga K "_law_value"))
  d__law_is_poly : ∃ fd, FnP K "_law_is_poly" (top 25) (He.ga K "_law_is_poly") fd
  m__law_is_poly : mg "_law_is_poly" = some (.ref (He.ga K "_law_is_poly"))
  d__law_spots : ∃ fd, FnP K "_law_spots" (top 26) (He.ga K "_law_spots") fd
  m__law_spots : mg "_law_spots" = some (.ref (He.ga K "_law_spots"))
  d__law_is_made : ∃ fd, FnP K "_law_is_made" (top 27) (He.ga K "_law_is_made") fd
  m__law_is_made : mg "_law_is_made" = some (.ref (He.ga K "_law_is_made"))
  d__law_mate : ∃ fd, FnP K "_law_mate" (top 28) (He.ga K "_law_mate") fd
  m__law_mate : mg "_law_mate" = some (.ref (He.ga K "_law_mate"))
  d__law_is_sum : ∃ fd, FnP K "_law_is_sum" (top 29) (He.ga K "_law_is_sum") fd
  m__law_is_sum : mg "_law_is_sum" = some (.ref (He.ga K "_law_is_sum"))
  d__law_is_scaled : ∃ fd, FnP K "_law_is_scaled" (top 30) (He.ga K "_law_is_scaled") fd
  m__law_is_scaled : mg "_law_is_scaled" = some (.ref (He.ga K "_law_is_scaled"))
  d__law_is_back : ∃ fd, FnP K "_law_is_back" (top 31) (He.ga K "_law_is_back") fd
  m__law_is_back : mg "_law_is_back" = some (.ref (He.ga K "_law_is_back"))
  d__law_is_at : ∃ fd, FnP K "_law_is_at" (top 32) (He.ga K "_law_is_at") fd
  m__law_is_at : mg "_law_is_at" = some (.ref (He.ga K "_law_is_at"))
  d_law : ∃ fd, FnP K "law" (top 33) (He.ga K "law") fd
  m_law : mg "law" = some (.ref (He.ga K "law"))
section
variable {P : Program} {w : World} {mg : Str → Option Value} {base : Heap} {K : PySem.W.Frag}
theorem ok_source {f : Addr} {fd : FuncData} (F : FnP K "_law_source" (top 16) f fd) (g : ∀ x ∈ bltNames, mg x = none) : FnG P w K mg base 1 f fd ["_law_script"] (spSource K) := by
  refine fn_ofG F scSrc (fun vs H Q E h => ?_) fun cdv A outer s H vs Q E hr h => ?_
  · obtain ⟨a, ns, rfl, _⟩ := h
    rfl
  refine ⟨_, pss_cons (ps_par3 (i := 1) (j := 2) (l := 3) rfl scSrc.nd rfl rfl rfl (by decide) (by decide) (by decide) rfl rfl rfl
      (pa_cons (pe_lst pa_nil) (pa_cons (pe_lst (pa_cons (pe_op op_add (pe_callB call_len_seq (by rfl) (g "len" (by decide)) PySem.boot_len (pa_cons (pv 0) pa_nil)) pe_int) pa_nil)) (pa_cons pe_int pa_nil))) rfl)
    (pss_cons (ps_for (passes_of rfl) rfl (pi_list (pe_slice sl_list (pv 0) po_none (po_some pe_int))) (pg_name (i := 4) scSrc.nd rfl (.inl rfl))
        (pss_cons (ps_set (i := 5) scSrc.nd rfl (.inl rfl) (pe_op op_add (pe_op op_mul pe_int (pe_callB call_abs (by rfl) (g "abs" (by decide)) PyProof.Rows.boot_abs (pa_cons (pv 4) pa_nil))) (pe_ifExp (pt_cmpR (op := .Lt) op_lt (pv 4) pe_int rfl) pe_int pe_int)) rfl)
          (pss_cons (ps_if (pt_cmpR (op := .Gt) op_gt (pv 5) (pe_op op_pow pe_int pe_int) rfl) (pss_one (ps_expr (pe_bm PySem.F.plainAttrs_list PySem.F.slot_list_append PySem.F.type_list_append mt_append (pv 1) (pa_cons (pv 5) pa_nil)))) pss_nil)
            (pss_cons (ps_expr (pe_bm PySem.F.plainAttrs_list PySem.F.slot_list_append PySem.F.type_list_append mt_append (pv 2) (pa_cons (pe_op op_modN (pe_callTy call_int1 (by rfl) (g "int" (by decide)) PyProof.Rows.boot_int (pa_cons (pv 5) pa_nil)) pe_int) pa_nil)))
              (pss_one (ps_set (i := 3) scSrc.nd rfl (.inl rfl) (pe_op op_modN (pe_callTy call_int1 (by rfl) (g "int" (by decide)) PyProof.Rows.boot_int (pa_cons (pe_op op_add (pe_op op_add (pe_op op_mul (pv 3) pe_int) (pv 5)) pe_int) pa_nil)) pe_int) rfl))))))
      (pss_one (ps_ret (pe_disp (pps_cons pe_str (pv 1) (pps_cons pe_str (pv 2) (pps_cons pe_str (pv 3) (pps_cons pe_str pe_int pps_nil)))) rfl rfl (by simp) (by decide))))), ?_⟩
  obtain ⟨a, ns, rfl, hs, hn, hQ⟩ := h
  refine ⟨by decide, fun p hp => ⟨_, rfl, a, _, rfl, .inl (Evl.ex_l (Evl.Ex.new hp) hs), _, _, rfl, rfl, (by show 1 ≤ sizeLine; decide), fun q hq => ⟨_, _, _, rfl, ?_⟩⟩⟩
  have hpq : p ≠ q := fun z => by rw [← z, upd_same] at hq; cases hq
  have hq0 : H q = none := by rw [upd_ne (Ne.symm hpq)] at hq; exact hq
  have x1 : Evl.Ex H (L2.upd (L2.upd H p (.lst [])) q (.lst [.int (((ns.map V.int).length : Int) + 5)])) := (Evl.Ex.new hp).trans (Evl.Ex.new hq)
  refine ⟨_, rfl, 63, rfl, a, _, rfl, Evl.ex_l x1 hs, fun c hc => ⟨c, rfl, ⟨_, SqL.of upd_same⟩, ?_⟩⟩
  have hcp : p ≠ c := fun z => by rw [← z, upd_ne hpq, upd_same] at hc; cases hc
  have hcq : q ≠ c := fun z => by rw [← z, upd_same] at hc; cases hc
  have hc0 : H c = none := by rw [upd_ne (Ne.symm hcq), upd_ne (Ne.symm hcp)] at hc; exact hc
  rw [cut_ints]
  have hm : (Un.cut ns none (some 63)).length ≤ 63 := by
    unfold Un.cut
    rw [List.length_take, List.length_drop]
    omega
  generalize Un.cut ns none (some 63) = ms at hm
  let Pv : Nat → L2.St → Hp → Prop := fun i σ' H' => ∃ (deep small : List Int) (fold : Int) (u v : Option V), σ' = [some (.ref a), some (.ref p), some (.ref q), some (.int fold), u, v] ∧ H' p = some (.lst (deep.map V.int)) ∧ H' q = some (.lst (small.map V.int)) ∧ small ≠ [] ∧
    H' c = some (.lst (ms.map V.int)) ∧ (∀ b o, H b = some o → H' b = some o) ∧ deep.length ≤ i ∧ small.length ≤ i + 1
  refine for_list (xs := ms.map V.int) Pv ⟨[], [((ns.map V.int).length : Int) + 5], 40503, none, none, rfl, (upd_ne hcp).trans ((upd_ne hpq).trans upd_same), (upd_ne hcq).trans upd_same, by simp, upd_same, fun b o e => ?_, Nat.le_refl _, Nat.le_refl _⟩ (fun i σ' H' _ ⟨_, _, _, _, _, _, _, _, _, h, _⟩ => SqL.of h) (fun i y σ' H' hy hP => ?_) fun σ' H' hP => ?_
  · have e2 := x1 b o e
    exact (upd_ne (ne_of_none e2 hc)).trans e2
  · obtain ⟨deep, small, fold, u, v, rfl, e1, e2, e3, e4, e5, e6, e7⟩ := hP
    have hi : i < ms.length := by
      have := (List.getElem?_eq_some_iff.mp hy).1
      simpa using this
    obtain ⟨z, rfl⟩ : ∃ z : Int, y = .int z := by
      rw [List.getElem?_map] at hy
      cases q : ms[i]? with
      | none => rw [q] at hy; cases hy
      | some z => rw [q] at hy; exact ⟨z, (Option.some.inj hy).symm⟩
    refine ⟨_, rfl, z, rfl, 2, _, rfl, rfl, .inl (by decide), _, rfl, z, 0, rfl, rfl, _, rfl, ?_⟩
    refine ite_both (fun _ => ?_) fun _ => ?_
    all_goals
      refine ⟨_, _, rfl, rfl, ?_⟩
      refine ⟨_, rfl, 10, 19, rfl, rfl, ⟨by decide, by decide, by decide⟩, _, _, rfl, rfl, _, rfl, ?_⟩
      refine ite_both (fun _ => ?_) fun _ => ?_
      · refine ⟨_, rfl, .inl ⟨rfl, _, SqL.of e1⟩, _, rfl, p, _, _, rfl, rfl, e1, by rw [List.length_map]; exact Nat.lt_of_lt_of_le (show deep.length < 100 by omega) (by decide), ?_⟩
        have d2 : ∀ o, L2.upd H' p o q = some (.lst (small.map V.int)) := fun o => (upd_ne (Ne.symm hpq)).trans e2
        refine ⟨_, rfl, .inl ⟨rfl, _, SqL.of (d2 _)⟩, _, rfl, .inl ⟨_, rfl, _, _, rfl, rfl, (by show (4294967291 : Int) ≠ 0; decide), q, _, _, rfl, rfl, d2 _, by rw [List.length_map]; exact Nat.lt_of_lt_of_le (show small.length < 100 by omega) (by decide), ?_⟩⟩
        refine ⟨_, rfl, _, _, rfl, rfl, .inr (by decide), _, rfl, _, _, rfl, rfl, _, _, rfl, rfl, .inl ⟨_, rfl, _, _, rfl, rfl, (by show (2305843009213693951 : Int) ≠ 0; decide), ?_⟩⟩
        refine ⟨deep ++ [_], small ++ [_], _, _, _, rfl, (upd_ne hpq).trans (upd_same.trans (snoc_int _ _)), upd_same.trans (snoc_int _ _), by simp, (upd_ne (Ne.symm hcq)).trans ((upd_ne (Ne.symm hcp)).trans e4), fun b o e => (upd_ne (ne_of_none e hq0)).trans ((upd_ne (ne_of_none e hp)).trans (e5 b o e)), by simp; omega, by simp; omega⟩
      · refine ⟨_, rfl, .inl ⟨rfl, _, SqL.of e2⟩, _, rfl, .inl ⟨_, rfl, _, _, rfl, rfl, (by show (4294967291 : Int) ≠ 0; decide), q, _, _, rfl, rfl, e2, by rw [List.length_map]; exact Nat.lt_of_lt_of_le (show small.length < 100 by omega) (by decide), ?_⟩⟩
        refine ⟨_, rfl, _, _, rfl, rfl, .inr (by decide), _, rfl, _, _, rfl, rfl, _, _, rfl, rfl, .inl ⟨_, rfl, _, _, rfl, rfl, (by show (2305843009213693951 : Int) ≠ 0; decide), ?_⟩⟩
        refine ⟨deep, small ++ [_], _, _, _, rfl, (upd_ne hpq).trans e1, upd_same.trans (snoc_int _ _), by simp, (upd_ne (Ne.symm hcq)).trans e4, fun b o e => (upd_ne (ne_of_none e hq0)).trans (e5 b o e), by omega, by simp; omega⟩
  · obtain ⟨deep, small, fold, u, v, rfl, e1, e2, e3, e4, e5, e6, e7⟩ := hP
    intro d hd
    have hdp : d ≠ p := fun z => by rw [z, e1] at hd; cases hd
    have hdq : d ≠ q := fun z => by rw [z, e2] at hd; cases hd
    have hd0 : H d = none := by
      cases z : H d with
      | none => rfl
      | some o => rw [e5 d o z] at hd; cases hd
    refine ⟨_, rfl, _, rfl, _, rfl, upd_same, srcKv p q fold 0, rfl, (by show 4 ≤ 15; decide), ?_⟩
    refine hQ (srcL d p q) _ ⟨d, p, q, hpq, hdp, hdq, rfl⟩ ⟨deep, small, fold, 0, upd_same, ?_, ?_, e3⟩ (fun b o e => ?_) fun b f => ?_
    · exact (upd_ne (Ne.symm hdp)).trans ((upd_ne (Ne.symm hdp)).trans e1)
    · exact (upd_ne (Ne.symm hdq)).trans ((upd_ne (Ne.symm hdq)).trans e2)
    · exact (upd_ne (ne_of_none e hd0)).trans ((upd_ne (ne_of_none e hd0)).trans (e5 b o e))
    · rcases f with rfl | rfl | rfl
      · exact hd0
      · exact hp
      · exact hq0
end
def nDraw : List Str := ["_law_source_here", "_law_many", "_law_deep", "_law_more", "_law_digit", "_law_turn", "_law_cell", "_law_mark"]
theorem scDraw : FnScope nDraw ["_law_source_here", "_law_many"] (defScope (top 17)) := ⟨rfl, rfl, rfl, by decide +kernel, rfl, by decide +kernel, by decide +kernel⟩
section
variable {P : Program} {w : World} {mg : Str → Option Value} {base : Heap} {l : Lay}
theorem ok_draw {f : Addr} {fd : FuncData} (hκ : l.κ = srcK) (F : FnP l.K "_law_draw" (top 17) f fd) (g : ∀ x ∈ bltNames, mg x = none) (gdm : mg "divmod" = none) : FnG P w l.K mg base 1 f fd ["_law_source_here", "_law_many"] (spF l drawW 2) := by
  refine fn_ofG F scDraw (fun vs H Q E h => ?_) fun cdv A outer s H vs Q E hr h => ?_
  · obtain ⟨L, Hi, args, k, x, h1, h2, h3, h4, h5, h6, h7⟩ := h
    rw [h6.len, h5] <;> rfl
  have hu : A.units + 3 + 200 < cLine := by
    have := hr.r.un
    have e : (A.deeper (envOfC "_law_draw" (defScope (top 17)) s.heap.objs.size f cdv)).units = A.units + 3 := rfl
    omega
  refine ⟨_, pss_cons (ps_set (i := 2) scDraw.nd rfl (.inl rfl) (pe_dget (by show A.units + 3 + 1 < cLine; omega) (pv 0) pe_str (fun _ _ => rfl)) rfl)
    (pss_cons (ps_if (pt_cmpR (op := .NotEq) (op_neD (by show A.units + 3 + 64 < cLine; omega)) (pv 2) (pe_lst pa_nil) rfl)
      (pss_cons (ps_asg (pe_callB call_divmodW (by rfl) gdm PyProof.Rows.boot_divmod (pa_cons (pe_ix ix_list (pv 2) pe_int (fun _ _ => rfl)) (pa_cons (pv 1) pa_nil)))
          (pg_tup rfl (pgs_cons (pg_name (i := 3) scDraw.nd rfl (.inl rfl)) (pgs_cons (pg_name (i := 4) scDraw.nd rfl (.inl rfl)) pgs_nil))))
        (pss_cons (ps_asg (pv 3) (pg_sub (pv 2) pe_int set_list))
          (pss_cons (ps_if (pt_cmpR (op := .Eq) op_eq (pv 3) pe_int rfl) (pss_one (ps_expr (pe_bm PySem.F.plainAttrs_list PySem.F.slot_list_pop PySem.F.type_list_pop mt_popAt (pv 2) (pa_cons pe_int pa_nil)))) pss_nil)
            (pss_one (ps_ret (pv 4)))))) pss_nil)
      (pss_cons (ps_set (i := 5) scDraw.nd rfl (.inl rfl) (pe_op op_add (pe_dget (by show A.units + 3 + 1 < cLine; omega) (pv 0) pe_str (fun _ _ => rfl)) pe_int) rfl)
        (pss_cons (ps_dput (by show A.units + 3 + 1 < cLine; omega) (pv 0) pe_str (pv 5) rfl)
          (pss_cons (ps_set (i := 6) scDraw.nd rfl (.inl rfl) (pe_ix ix_list (pe_dget (by show A.units + 3 + 1 < cLine; omega) (pv 0) pe_str (fun _ _ => rfl))
              (pe_op op_modN (pe_callTy call_int1 (by rfl) (g "int" (by decide)) PyProof.Rows.boot_int (pa_cons (pv 5) pa_nil)) (pe_callB call_len_seq (by rfl) (g "len" (by decide)) PySem.boot_len (pa_cons (pe_dget (by show A.units + 3 + 1 < cLine; omega) (pv 0) pe_str (fun _ _ => rfl)) pa_nil))) (fun _ _ => rfl)) rfl)
            (pss_cons (ps_set (i := 7) scDraw.nd rfl (.inl rfl) (pe_op op_modN (pe_callTy call_int1 (by rfl) (g "int" (by decide)) PyProof.Rows.boot_int
                (pa_cons (pe_op op_add (pe_op op_add (pe_dget (by show A.units + 3 + 1 < cLine; omega) (pv 0) pe_str (fun _ _ => rfl)) (pe_op op_mul (pv 6) pe_int)) (pe_op op_mul (pv 5) pe_int)) pa_nil)) pe_int) rfl)
              (pss_cons (ps_set (i := 7) scDraw.nd rfl (.inl rfl) (pe_op op_modN (pe_callTy call_int1 (by rfl) (g "int" (by decide)) PyProof.Rows.boot_int
                  (pa_cons (pe_op op_add (pe_op op_add (pe_op op_mul (pv 7) (pv 7)) (pe_op op_mul (pv 5) pe_int)) (pv 6)) pa_nil)) pe_int) rfl)
                (pss_cons (ps_set (i := 7) scDraw.nd rfl (.inl rfl) (pe_op op_modN (pe_callTy call_int1 (by rfl) (g "int" (by decide)) PyProof.Rows.boot_int (pa_cons (pe_op op_add (pe_op op_mul (pv 7) (pv 7)) pe_int) pa_nil)) pe_int) rfl)
                  (pss_one (ps_ret (pe_op op_modN (pe_callTy call_int1 (by rfl) (g "int" (by decide)) PyProof.Rows.boot_int (pa_cons (pe_op op_fdiv (pv 7) pe_int) pa_nil)) (pv 1))))))))))), ?_⟩
  obtain ⟨L, Hi, args, k, x, h1, h2, h3, h4, h5, h6, ⟨n, rfl, hn, hl, hk⟩, h8, h9⟩ := h
  rw [hκ] at h1
  obtain ⟨d, p, q, hpq, hdp, hdq, rfl⟩ := h1
  cases h6 with
  | cons a1 t1 =>
  cases t1 with
  | cons a2 t2 =>
  cases t2
  obtain rfl := a1
  cases a2
  obtain ⟨deep, small, fold, turn, e1, e2, e3, e4⟩ := h2
  have fin : ∀ (H' : Hp) (deep' : List Int) (turn' : Int), H' d = some (.dK (srcKv p q fold turn')) → H' p = some (.lst (deep'.map V.int)) → H' q = some (.lst (small.map V.int)) → (∀ a o, H a = some o → a ≠ d → a ≠ p → a ≠ q → H' a = some o) →
      (∀ a, H' a = none → H a = none) → ∀ r, 0 ≤ r → r < n → Q (.int r) H' := fun H' deep' turn' g1 g2 g3 g4 g5 r r0 r1 =>
    h8 _ (hk r r0 r1) (.int r) Hi H' (src_grow h3 h4 (fun a o e nf => g4 a o e (fun z => nf (.inl z)) (fun z => nf (.inr (.inl z))) fun z => nf (.inr (.inr z))) g5) ⟨deep', small, fold, turn', g1, g2, g3, e4⟩ (Dq.int r)
  refine ⟨_, rfl, d, _, rfl, get_deep e1, ?_⟩
  refine ⟨_, rfl, by decide, fun p0 hp0 => ?_⟩
  have n1 : d ≠ p0 := fun z => by rw [← z, e1] at hp0; cases hp0
  have n2 : p ≠ p0 := fun z => by rw [← z, e2] at hp0; cases hp0
  have n3 : q ≠ p0 := fun z => by rw [← z, e3] at hp0; cases hp0
  have e1' : L2.upd H p0 (.lst []) d = some (.dK (srcKv p q fold turn)) := (upd_ne n1).trans e1
  have e2' : L2.upd H p0 (.lst []) p = some (.lst (deep.map V.int)) := (upd_ne n2).trans e2
  have e3' : L2.upd H p0 (.lst []) q = some (.lst (small.map V.int)) := (upd_ne n3).trans e3
  have k' : ∀ a o, H a = some o → L2.upd H p0 (.lst []) a = some o := fun a o e => (upd_ne (ne_of_none e hp0)).trans e
  have d' : ∀ a, L2.upd H p0 (.lst []) a = none → H a = none := fun a e => by
    by_cases z : a = p0
    · rw [z]; exact hp0
    · rw [upd_ne z] at e; exact e
  clear e1 e2 e3
  refine ⟨.list (deep.map PyData.int), .list [], deep_empty e2', .lst (SqL.of upd_same) .nil, shape_ints deep, rfl, ?_⟩
  cases deep with
  | nil =>
    refine ⟨false, rfl, ?_⟩
    show tNext _ _ _
    refine ⟨_, rfl, d, _, rfl, get_turn e1', _, _, rfl, rfl, ?_⟩
    refine ⟨_, rfl, _, rfl, d, _, rfl, put_turn e1' _, ?_⟩
    have m1 : L2.upd (L2.upd H p0 (.lst [])) d (.dK (srcKv p q fold (turn + 1))) d = some (.dK (srcKv p q fold (turn + 1))) := upd_same
    have m3 : L2.upd (L2.upd H p0 (.lst [])) d (.dK (srcKv p q fold (turn + 1))) q = some (.lst (small.map V.int)) := (upd_ne (Ne.symm hdq)).trans e3'
    have hlen : (0 : Int) < small.length := by
      cases small with
      | nil => exact absurd rfl e4
      | cons a r => simp <;> omega
    have hx : ∃ c : Int, atI (small.map V.int) ((turn + 1).fmod small.length) = some (.int c) := by
      have h0 : 0 ≤ (turn + 1).fmod small.length := Int.fmod_nonneg_of_pos _ hlen
      have h1 : (turn + 1).fmod small.length < small.length := Int.fmod_lt_of_pos _ hlen
      unfold atI ixN
      rw [List.length_map, if_pos h0, if_pos h1]
      have h2 : ((turn + 1).fmod small.length).toNat < small.length := by omega
      exact ⟨small[((turn + 1).fmod small.length).toNat], by simp [h2]⟩
    obtain ⟨c, hc⟩ := hx
    have hlen' : (0 : Int) < ((small.map V.int).length : Int) := by rw [List.length_map]; exact hlen
    have hc' : atI (small.map V.int) ((turn + 1).fmod ((small.map V.int).length : Int)) = some (.int c) := by rw [List.length_map]; exact hc
    refine ⟨_, rfl, d, _, rfl, get_small m1, _, rfl, .inl ⟨_, rfl, _, rfl, d, _, rfl, get_small m1, q, _, rfl, .inl (SqL.of m3), _, _, rfl, rfl, (by omega), q, _, _, .int c, rfl, rfl, SqL.of m3, hc', ?_⟩⟩
    refine ⟨_, rfl, d, _, rfl, get_fold m1, _, rfl, _, _, rfl, rfl, .inr (by decide), _, _, rfl, rfl, _, rfl, _, _, rfl, rfl, .inr (by decide), _, _, rfl, rfl, .inl ⟨_, rfl, _, _, rfl, rfl, (by show (18446744073709551557 : Int) ≠ 0; decide), ?_⟩⟩
    have small7 : ∀ (y m : Int), 0 < m → m < 2 ^ 64 → -(2 ^ 64) < y.fmod m ∧ y.fmod m < 2 ^ 64 := fun y m h0 h1 => by
      have q1 := Int.fmod_nonneg_of_pos y h0
      have q2 := Int.fmod_lt_of_pos y h0
      omega
    refine ⟨_, rfl, _, rfl, _, _, rfl, rfl, .inl (small7 _ _ (by decide) (by decide)), _, rfl, _, _, rfl, rfl, .inr (by decide), _, _, rfl, rfl, _, rfl, _, _, rfl, rfl, .inl ⟨_, rfl, _, _, rfl, rfl, (by show (18446744073709551533 : Int) ≠ 0; decide), ?_⟩⟩
    refine ⟨_, rfl, _, rfl, _, _, rfl, rfl, .inl (small7 _ _ (by decide) (by decide)), _, _, rfl, rfl, .inl ⟨_, rfl, _, _, rfl, rfl, (by show (18446744073709551521 : Int) ≠ 0; decide), ?_⟩⟩
    refine ⟨_, rfl, _, _, rfl, rfl, ⟨by decide, by decide⟩, .inl ⟨_, rfl, _, rfl, _, _, rfl, rfl, (by omega), ?_⟩⟩
    refine fin _ [] (turn + 1) m1 ((upd_ne (Ne.symm hdp)).trans e2') m3 (fun a o e z1 z2 z3 => (upd_ne z1).trans (k' a o e)) (fun a e => d' a ?_) _ (Int.fmod_nonneg_of_pos _ hn) (Int.fmod_lt_of_pos _ hn)
    by_cases z : a = d
    · rw [z, upd_same] at e
      cases e
    · rw [upd_ne z] at e
      exact e
  | cons i r =>
    refine ⟨true, rfl, ?_⟩
    refine ⟨_, rfl, p, _, 0, .int i, rfl, rfl, SqL.of e2', at_zero _ _, _, rfl, i, n, rfl, divP hn hl i, fun p1 hp1 => ⟨p1, _, rfl, SqT.of upd_same, rfl, _, _, rfl, _, _, rfl, rfl, ?_⟩⟩
    have o1 : p ≠ p1 := fun z => by rw [← z, e2'] at hp1; cases hp1
    have o2 : d ≠ p1 := fun z => by rw [← z, e1'] at hp1; cases hp1
    have o3 : q ≠ p1 := fun z => by rw [← z, e3'] at hp1; cases hp1
    have f1 : L2.upd (L2.upd H p0 (.lst [])) p1 (.tup [.int (i / n), .int (i % n)]) p = some (.lst ((i :: r).map V.int)) := (upd_ne o1).trans e2'
    refine ⟨_, rfl, _, rfl, p, _, 0, 0, rfl, rfl, f1, ix_zero _, ?_⟩
    have g1 : L2.upd (L2.upd (L2.upd H p0 (.lst [])) p1 (.tup [.int (i / n), .int (i % n)])) p (.lst (((i :: r).map V.int).set 0 (.int (i / n)))) p = some (.lst (V.int (i / n) :: r.map V.int)) := upd_same
    have g2 : L2.upd (L2.upd (L2.upd H p0 (.lst [])) p1 (.tup [.int (i / n), .int (i % n)])) p (.lst (((i :: r).map V.int).set 0 (.int (i / n)))) d = some (.dK (srcKv p q fold turn)) := ((upd_ne hdp).trans (upd_ne o2)).trans e1'
    have g3 : L2.upd (L2.upd (L2.upd H p0 (.lst [])) p1 (.tup [.int (i / n), .int (i % n)])) p (.lst (((i :: r).map V.int).set 0 (.int (i / n)))) q = some (.lst (small.map V.int)) := ((upd_ne (Ne.symm hpq)).trans (upd_ne o3)).trans e3'
    have g4 : ∀ a o, H a = some o → a ≠ p → L2.upd (L2.upd (L2.upd H p0 (.lst [])) p1 (.tup [.int (i / n), .int (i % n)])) p (.lst (((i :: r).map V.int).set 0 (.int (i / n)))) a = some o := fun a o e z =>
      ((upd_ne z).trans (upd_ne (ne_of_none (k' a o e) hp1))).trans (k' a o e)
    have g5 : ∀ a, L2.upd (L2.upd (L2.upd H p0 (.lst [])) p1 (.tup [.int (i / n), .int (i % n)])) p (.lst (((i :: r).map V.int).set 0 (.int (i / n)))) a = none → H a = none := fun a e => by
      refine d' a ?_
      by_cases z : a = p
      · rw [z, upd_same] at e
        cases e
      · rw [upd_ne z] at e
        by_cases z' : a = p1
        · rw [z', upd_same] at e
          cases e
        · rw [upd_ne z'] at e
          exact e
    have r0 : 0 ≤ i % n := Int.emod_nonneg _ (by omega)
    have r1 : i % n < n := Int.emod_lt_of_pos _ hn
    refine ⟨_, rfl, rfl, _, rfl, ?_⟩
    by_cases hz : i / n = 0
    · rw [decide_eq_true (by rw [hz])]
      refine ⟨_, rfl, .inl ⟨rfl, _, SqL.of g1⟩, p, _, 0, 0, _, rfl, rfl, g1, by decide, by decide, by simp [seqIndex?], rfl, ?_⟩
      refine ⟨_, rfl, ?_⟩
      refine fin _ r turn ((upd_ne hdp).trans g2) upd_same ((upd_ne (Ne.symm hpq)).trans g3) (fun a o e z1 z2 z3 => (upd_ne z2).trans (g4 a o e z2)) (fun a e => ?_) _ r0 r1
      by_cases z : a = p
      · rw [z, upd_same] at e
        cases e
      · rw [upd_ne z] at e
        exact g5 a e
    · rw [decide_eq_false (by simpa using hz)]
      exact ⟨_, rfl, fin _ ((i / n) :: r) turn g2 g1 g3 (fun a o e z1 z2 z3 => g4 a o e z2) g5 _ r0 r1⟩
end
section
variable {P : Program} {w : World} {K : PySem.W.Frag} {mg : Str → Option Value} {base : Heap}
abbrev ly (K : PySem.W.Frag) : Lay := ⟨K, srcK, fun _ _ _ _ _ _ => False, fun _ _ _ _ => False⟩
theorem g__law_draw (Z : Facts K mg) : ∃ fd, FnP K "_law_draw" (top 17) (He.ga K "_law_draw") fd ∧ FnG P w K mg base 1 (He.ga K "_law_draw") fd ["_law_source_here", "_law_many"] (spF (ly K) drawW 2) := by
  obtain ⟨fd, F⟩ := Z.d__law_draw
  exact ⟨fd, F, ok_draw (l := ly K) rfl F Z.gb Z.dm⟩
theorem g_lowest (Z : Facts K mg) : ∃ fd, FnP K "lowest" (top 4) (He.ga K "lowest") fd ∧ FnG P w K mg base 1 (He.ga K "lowest") fd ["top", "bottom"] (spF (ly K) F_lowest 2) := by
  have gl : Glob P w mg base (ly K) nc_lowest fe_lowest :=
    { mgn := Z.gb
      gcd := fun _ => Z.gcd
      pats := fun p hp => by
        cases hp
      csts := fun c hc => by
        cases hc
    }
  obtain ⟨fd, F⟩ := Z.d_lowest
  unfold F_lowest
  exact ⟨fd, F, fn_run (l := ly K) (nc := nc_lowest) F sc_lowest gl ck_lowest⟩
theorem g_plus (Z : Facts K mg) : ∃ fd, FnP K "plus" (top 5) (He.ga K "plus") fd ∧ FnG P w K mg base 2 (He.ga K "plus") fd ["f", "g"] (spF (ly K) F_plus 2) := by
  obtain ⟨fd0, D0, G0⟩ := g_lowest (P := P) (w := w) (base := base) Z
  have gl : Glob P w mg base (ly K) nc_plus fe_plus :=
    { mgn := Z.gb
      gcd := fun h => nomatch h
      pats := fun p hp => by
        simp only [List.mem_cons, List.not_mem_nil, or_false] at hp
        rcases hp with rfl
        · exact call_of ⟨1, "lowest", 2, [], [0, 1]⟩ rfl D0 Z.m_lowest rfl G0 (by decide) fun _ _ _ _ _ _ us ws h1 h2 => match us, ws, h1, h2 with | [_, _], [], _, _ => rfl
      csts := fun c hc => by
        cases hc
    }
  obtain ⟨fd, F⟩ := Z.d_plus
  unfold F_plus
  exact ⟨fd, F, fn_run (l := ly K) (nc := nc_plus) F sc_plus gl ck_plus⟩
theorem g_times (Z : Facts K mg) : ∃ fd, FnP K "times" (top 6) (He.ga K "times") fd ∧ FnG P w K mg base 2 (He.ga K "times") fd ["f", "g"] (spF (ly K) F_times 2) := by
  obtain ⟨fd0, D0, G0⟩ := g_lowest (P := P) (w := w) (base := base) Z
  have gl : Glob P w mg base (ly K) nc_times fe_times :=
    { mgn := Z.gb
      gcd := fun h => nomatch h
      pats := fun p hp => by
        simp only [List.mem_cons, List.not_mem_nil, or_false] at hp
        rcases hp with rfl
        · exact call_of ⟨1, "lowest", 2, [], [0, 1]⟩ rfl D0 Z.m_lowest rfl G0 (by decide) fun _ _ _ _ _ _ us ws h1 h2 => match us, ws, h1, h2 with | [_, _], [], _, _ => rfl
      csts := fun c hc => by
        cases hc
    }
  obtain ⟨fd, F⟩ := Z.d_times
  unfold F_times
  exact ⟨fd, F, fn_run (l := ly K) (nc := nc_times) F sc_times gl ck_times⟩
theorem g_trimmed (Z : Facts K mg) : ∃ fd, FnP K "trimmed" (top 8) (He.ga K "trimmed") fd ∧ FnG P w K mg base 1 (He.ga K "trimmed") fd ["factors"] (spF (ly K) F_trimmed 1) := by
  have gl : Glob P w mg base (ly K) nc_trimmed fe_trimmed :=
    { mgn := Z.gb
      gcd := fun h => nomatch h
      pats := fun p hp => by
        cases hp
      csts := fun c hc => by
        simp only [List.mem_cons, List.not_mem_nil, or_false] at hc
        rcases hc with rfl
        · exact Z.c_NOUGHT
    }
  obtain ⟨fd, F⟩ := Z.d_trimmed
  unfold F_trimmed
  exact ⟨fd, F, fn_run (l := ly K) (nc := nc_trimmed) F sc_trimmed gl ck_trimmed⟩
theorem g_at (Z : Facts K mg) : ∃ fd, FnP K "at" (top 9) (He.ga K "at") fd ∧ FnG P w K mg base 3 (He.ga K "at") fd ["p", "f"] (spF (ly K) F_at 2) := by
  obtain ⟨fd0, D0, G0⟩ := g_plus (P := P) (w := w) (base := base) Z
  obtain ⟨fd1, D1, G1⟩ := g_times (P := P) (w := w) (base := base) Z
  have gl : Glob P w mg base (ly K) nc_at fe_at :=
    { mgn := Z.gb
      gcd := fun h => nomatch h
      pats := fun p hp => by
        simp only [List.mem_cons, List.not_mem_nil, or_false] at hp
        rcases hp with rfl | rfl
        · exact call_of ⟨2, "plus", 2, [], [0, 1]⟩ rfl D0 Z.m_plus rfl G0 (by decide) fun _ _ _ _ _ _ us ws h1 h2 => match us, ws, h1, h2 with | [_, _], [], _, _ => rfl
        · exact call_of ⟨3, "times", 2, [], [0, 1]⟩ rfl D1 Z.m_times rfl G1 (by decide) fun _ _ _ _ _ _ us ws h1 h2 => match us, ws, h1, h2 with | [_, _], [], _, _ => rfl
      csts := fun c hc => by
        simp only [List.mem_cons, List.not_mem_nil, or_false] at hc
        rcases hc with rfl
        · exact Z.c_NOUGHT
    }
  obtain ⟨fd, F⟩ := Z.d_at
  unfold F_at
  exact ⟨fd, F, fn_run (l := ly K) (nc := nc_at) F sc_at gl ck_at⟩
theorem g_added (Z : Facts K mg) : ∃ fd, FnP K "added" (top 10) (He.ga K "added") fd ∧ FnG P w K mg base 3 (He.ga K "added") fd ["p", "q"] (spF (ly K) F_added 2) := by
  obtain ⟨fd0, D0, G0⟩ := g_plus (P := P) (w := w) (base := base) Z
  obtain ⟨fd1, D1, G1⟩ := g_trimmed (P := P) (w := w) (base := base) Z
  have gl : Glob P w mg base (ly K) nc_added fe_added :=
    { mgn := Z.gb
      gcd := fun h => nomatch h
      pats := fun p hp => by
        simp only [List.mem_cons, List.not_mem_nil, or_false] at hp
        rcases hp with rfl | rfl
        · exact call_of ⟨2, "plus", 2, [], [0, 1]⟩ rfl D0 Z.m_plus rfl G0 (by decide) fun _ _ _ _ _ _ us ws h1 h2 => match us, ws, h1, h2 with | [_, _], [], _, _ => rfl
        · exact call_of ⟨4, "trimmed", 1, [], [0]⟩ rfl D1 Z.m_trimmed rfl G1 (by decide) fun _ _ _ _ _ _ us ws h1 h2 => match us, ws, h1, h2 with | [_], [], _, _ => rfl
      csts := fun c hc => by
        cases hc
    }
  obtain ⟨fd, F⟩ := Z.d_added
  unfold F_added
  exact ⟨fd, F, fn_run (l := ly K) (nc := nc_added) F sc_added gl ck_added⟩
theorem g_multiplied (Z : Facts K mg) : ∃ fd, FnP K "multiplied" (top 11) (He.ga K "multiplied") fd ∧ FnG P w K mg base 3 (He.ga K "multiplied") fd ["p", "q"] (spF (ly K) F_multiplied 2) := by
  obtain ⟨fd0, D0, G0⟩ := g_plus (P := P) (w := w) (base := base) Z
  obtain ⟨fd1, D1, G1⟩ := g_times (P := P) (w := w) (base := base) Z
  obtain ⟨fd2, D2, G2⟩ := g_trimmed (P := P) (w := w) (base := base) Z
  have gl : Glob P w mg base (ly K) nc_multiplied fe_multiplied :=
    { mgn := Z.gb
      gcd := fun h => nomatch h
      pats := fun p hp => by
        simp only [List.mem_cons, List.not_mem_nil, or_false] at hp
        rcases hp with rfl | rfl | rfl
        · exact call_of ⟨2, "plus", 2, [], [0, 1]⟩ rfl D0 Z.m_plus rfl G0 (by decide) fun _ _ _ _ _ _ us ws h1 h2 => match us, ws, h1, h2 with | [_, _], [], _, _ => rfl
        · exact call_of ⟨3, "times", 2, [], [0, 1]⟩ rfl D1 Z.m_times rfl G1 (by decide) fun _ _ _ _ _ _ us ws h1 h2 => match us, ws, h1, h2 with | [_, _], [], _, _ => rfl
        · exact call_of ⟨4, "trimmed", 1, [], [0]⟩ rfl D2 Z.m_trimmed rfl G2 (by decide) fun _ _ _ _ _ _ us ws h1 h2 => match us, ws, h1, h2 with | [_], [], _, _ => rfl
      csts := fun c hc => by
        simp only [List.mem_cons, List.not_mem_nil, or_false] at hc
        rcases hc with rfl
        · exact Z.c_NOUGHT
    }
  obtain ⟨fd, F⟩ := Z.d_multiplied
  unfold F_multiplied
  exact ⟨fd, F, fn_run (l := ly K) (nc := nc_multiplied) F sc_multiplied gl ck_multiplied⟩
theorem g_scaled (Z : Facts K mg) : ∃ fd, FnP K "scaled" (top 12) (He.ga K "scaled") fd ∧ FnG P w K mg base 3 (He.ga K "scaled") fd ["p", "f"] (spF (ly K) F_scaled 2) := by
  obtain ⟨fd0, D0, G0⟩ := g_trimmed (P := P) (w := w) (base := base) Z
  obtain ⟨fd1, D1, G1⟩ := g_times (P := P) (w := w) (base := base) Z
  have gl : Glob P w mg base (ly K) nc_scaled fe_scaled :=
    { mgn := Z.gb
      gcd := fun h => nomatch h
      pats := fun p hp => by
        simp only [List.mem_cons, List.not_mem_nil, or_false] at hp
        rcases hp with rfl | rfl
        · exact call_of ⟨4, "trimmed", 1, [], [0]⟩ rfl D0 Z.m_trimmed rfl G0 (by decide) fun _ _ _ _ _ _ us ws h1 h2 => match us, ws, h1, h2 with | [_], [], _, _ => rfl
        · exact call_of ⟨3, "times", 2, [], [0, 1]⟩ rfl D1 Z.m_times rfl G1 (by decide) fun _ _ _ _ _ _ us ws h1 h2 => match us, ws, h1, h2 with | [_, _], [], _, _ => rfl
      csts := fun c hc => by
        cases hc
    }
  obtain ⟨fd, F⟩ := Z.d_scaled
  unfold F_scaled
  exact ⟨fd, F, fn_run (l := ly K) (nc := nc_scaled) F sc_scaled gl ck_scaled⟩
theorem g_shifted (Z : Facts K mg) : ∃ fd, FnP K "shifted" (top 13) (He.ga K "shifted") fd ∧ FnG P w K mg base 3 (He.ga K "shifted") fd ["p", "f"] (spF (ly K) F_shifted 2) := by
  obtain ⟨fd0, D0, G0⟩ := g_plus (P := P) (w := w) (base := base) Z
  obtain ⟨fd1, D1, G1⟩ := g_times (P := P) (w := w) (base := base) Z
  have gl : Glob P w mg base (ly K) nc_shifted fe_shifted :=
    { mgn := Z.gb
      gcd := fun h => nomatch h
      pats := fun p hp => by
        simp only [List.mem_cons, List.not_mem_nil, or_false] at hp
        rcases hp with rfl | rfl
        · exact call_of ⟨2, "plus", 2, [], [0, 1]⟩ rfl D0 Z.m_plus rfl G0 (by decide) fun _ _ _ _ _ _ us ws h1 h2 => match us, ws, h1, h2 with | [_, _], [], _, _ => rfl
        · exact call_of ⟨3, "times", 2, [], [0, 1]⟩ rfl D1 Z.m_times rfl G1 (by decide) fun _ _ _ _ _ _ us ws h1 h2 => match us, ws, h1, h2 with | [_, _], [], _, _ => rfl
      csts := fun c hc => by
        cases hc
    }
  obtain ⟨fd, F⟩ := Z.d_shifted
  unfold F_shifted
  exact ⟨fd, F, fn_run (l := ly K) (nc := nc_shifted) F sc_shifted gl ck_shifted⟩
theorem g_stretched (Z : Facts K mg) : ∃ fd, FnP K "stretched" (top 14) (He.ga K "stretched") fd ∧ FnG P w K mg base 3 (He.ga K "stretched") fd ["p", "f"] (spF (ly K) F_stretched 2) := by
  obtain ⟨fd0, D0, G0⟩ := g_times (P := P) (w := w) (base := base) Z
  obtain ⟨fd1, D1, G1⟩ := g_trimmed (P := P) (w := w) (base := base) Z
  have gl : Glob P w mg base (ly K) nc_stretched fe_stretched :=
    { mgn := Z.gb
      gcd := fun h => nomatch h
      pats := fun p hp => by
        simp only [List.mem_cons, List.not_mem_nil, or_false] at hp
        rcases hp with rfl | rfl
        · exact call_of ⟨3, "times", 2, [], [0, 1]⟩ rfl D0 Z.m_times rfl G0 (by decide) fun _ _ _ _ _ _ us ws h1 h2 => match us, ws, h1, h2 with | [_, _], [], _, _ => rfl
        · exact call_of ⟨4, "trimmed", 1, [], [0]⟩ rfl D1 Z.m_trimmed rfl G1 (by decide) fun _ _ _ _ _ _ us ws h1 h2 => match us, ws, h1, h2 with | [_], [], _, _ => rfl
      csts := fun c hc => by
        simp only [List.mem_cons, List.not_mem_nil, or_false] at hc
        rcases hc with rfl
        · exact Z.c_ONE
    }
  obtain ⟨fd, F⟩ := Z.d_stretched
  unfold F_stretched
  exact ⟨fd, F, fn_run (l := ly K) (nc := nc_stretched) F sc_stretched gl ck_stretched⟩
theorem g__law_of (Z : Facts K mg) : ∃ fd, FnP K "_law_of" (top 18) (He.ga K "_law_of") fd ∧ FnG P w K mg base 2 (He.ga K "_law_of") fd ["_law_source_here", "_law_row"] (spF (ly K) F__law_of 2) := by
  obtain ⟨fd0, D0, G0⟩ := g__law_draw (P := P) (w := w) (base := base) Z
  have gl : Glob P w mg base (ly K) nc__law_of fe__law_of :=
    { mgn := Z.gb
      gcd := fun h => nomatch h
      pats := fun p hp => by
        simp only [List.mem_cons, List.not_mem_nil, or_false] at hp
        rcases hp with rfl
        · exact call_of ⟨0, "_law_draw", 2, [], [0, 1]⟩ rfl D0 Z.m__law_draw rfl G0 (by decide) fun _ _ _ _ _ _ us ws h1 h2 => match us, ws, h1, h2 with | [_, _], [], _, _ => rfl
      csts := fun c hc => by
        cases hc
    }
  obtain ⟨fd, F⟩ := Z.d__law_of
  unfold F__law_of
  exact ⟨fd, F, fn_run (l := ly K) (nc := nc__law_of) F sc__law_of gl ck__law_of⟩
theorem g__law_divisor (Z : Facts K mg) : ∃ fd, FnP K "_law_divisor" (top 19) (He.ga K "_law_divisor") fd ∧ FnG P w K mg base 1 (He.ga K "_law_divisor") fd ["_law_a", "_law_b"] (spF (ly K) F__law_divisor 2) := by
  have gl : Glob P w mg base (ly K) nc__law_divisor fe__law_divisor :=
    { mgn := Z.gb
      gcd := fun h => nomatch h
      pats := fun p hp => by
        cases hp
      csts := fun c hc => by
        cases hc
    }
  obtain ⟨fd, F⟩ := Z.d__law_divisor
  unfold F__law_divisor
  exact ⟨fd, F, fn_run (l := ly K) (nc := nc__law_divisor) F sc__law_divisor gl ck__law_divisor⟩
theorem g__law_is_fraction (Z : Facts K mg) : ∃ fd, FnP K "_law_is_fraction" (top 20) (He.ga K "_law_is_fraction") fd ∧ FnG P w K mg base 2 (He.ga K "_law_is_fraction") fd ["_law_thing"] (spF (ly K) F__law_is_fraction 1) := by
  obtain ⟨fd0, D0, G0⟩ := g__law_divisor (P := P) (w := w) (base := base) Z
  have gl : Glob P w mg base (ly K) nc__law_is_fraction fe__law_is_fraction :=
    { mgn := Z.gb
      gcd := fun h => nomatch h
      pats := fun p hp => by
        simp only [List.mem_cons, List.not_mem_nil, or_false] at hp
        rcases hp with rfl
        · exact call_of ⟨28, "_law_divisor", 2, [], [0, 1]⟩ rfl D0 Z.m__law_divisor rfl G0 (by decide) fun _ _ _ _ _ _ us ws h1 h2 => match us, ws, h1, h2 with | [_, _], [], _, _ => rfl
      csts := fun c hc => by
        cases hc
    }
  obtain ⟨fd, F⟩ := Z.d__law_is_fraction
  unfold F__law_is_fraction
  exact ⟨fd, F, fn_run (l := ly K) (nc := nc__law_is_fraction) F sc__law_is_fraction gl ck__law_is_fraction⟩
theorem g__law_lowest (Z : Facts K mg) : ∃ fd, FnP K "_law_lowest" (top 21) (He.ga K "_law_lowest") fd ∧ FnG P w K mg base 1 (He.ga K "_law_lowest") fd ["_law_up", "_law_down"] (spF (ly K) F__law_lowest 2) := by
  have gl : Glob P w mg base (ly K) nc__law_lowest fe__law_lowest :=
    { mgn := Z.gb
      gcd := fun h => nomatch h
      pats := fun p hp => by
        cases hp
      csts := fun c hc => by
        cases hc
    }
  obtain ⟨fd, F⟩ := Z.d__law_lowest
  unfold F__law_lowest
  exact ⟨fd, F, fn_run (l := ly K) (nc := nc__law_lowest) F sc__law_lowest gl ck__law_lowest⟩
theorem g__law_fraction (Z : Facts K mg) : ∃ fd, FnP K "_law_fraction" (top 22) (He.ga K "_law_fraction") fd ∧ FnG P w K mg base 3 (He.ga K "_law_fraction") fd ["_law_source_here", "_law_most"] (spF (ly K) F__law_fraction 2) := by
  obtain ⟨fd0, D0, G0⟩ := g__law_draw (P := P) (w := w) (base := base) Z
  obtain ⟨fd1, D1, G1⟩ := g__law_of (P := P) (w := w) (base := base) Z
  obtain ⟨fd2, D2, G2⟩ := g__law_lowest (P := P) (w := w) (base := base) Z
  have gl : Glob P w mg base (ly K) nc__law_fraction fe__law_fraction :=
    { mgn := Z.gb
      gcd := fun h => nomatch h
      pats := fun p hp => by
        simp only [List.mem_cons, List.not_mem_nil, or_false] at hp
        rcases hp with rfl | rfl | rfl
        · exact call_of ⟨0, "_law_draw", 2, [], [0, 1]⟩ rfl D0 Z.m__law_draw rfl G0 (by decide) fun _ _ _ _ _ _ us ws h1 h2 => match us, ws, h1, h2 with | [_, _], [], _, _ => rfl
        · exact call_of ⟨13, "_law_of", 2, [], [0, 1]⟩ rfl D1 Z.m__law_of rfl G1 (by decide) fun _ _ _ _ _ _ us ws h1 h2 => match us, ws, h1, h2 with | [_, _], [], _, _ => rfl
        · exact call_of ⟨14, "_law_lowest", 2, [], [0, 1]⟩ rfl D2 Z.m__law_lowest rfl G2 (by decide) fun _ _ _ _ _ _ us ws h1 h2 => match us, ws, h1, h2 with | [_, _], [], _, _ => rfl
      csts := fun c hc => by
        cases hc
    }
  obtain ⟨fd, F⟩ := Z.d__law_fraction
  unfold F__law_fraction
  exact ⟨fd, F, fn_run (l := ly K) (nc := nc__law_fraction) F sc__law_fraction gl ck__law_fraction⟩
theorem g__law_poly (Z : Facts K mg) : ∃ fd, FnP K "_law_poly" (top 23) (He.ga K "_law_poly") fd ∧ FnG P w K mg base 4 (He.ga K "_law_poly") fd ["_law_source_here", "_law_size", "_law_most"] (spF (ly K) F__law_poly 3) := by
  obtain ⟨fd0, D0, G0⟩ := g__law_draw (P := P) (w := w) (base := base) Z
  obtain ⟨fd1, D1, G1⟩ := g__law_fraction (P := P) (w := w) (base := base) Z
  obtain ⟨fd2, D2, G2⟩ := g__law_lowest (P := P) (w := w) (base := base) Z
  have gl : Glob P w mg base (ly K) nc__law_poly fe__law_poly :=
    { mgn := Z.gb
      gcd := fun h => nomatch h
      pats := fun p hp => by
        simp only [List.mem_cons, List.not_mem_nil, or_false] at hp
        rcases hp with rfl | rfl | rfl
        · exact call_of ⟨0, "_law_draw", 2, [], [0, 1]⟩ rfl D0 Z.m__law_draw rfl G0 (by decide) fun _ _ _ _ _ _ us ws h1 h2 => match us, ws, h1, h2 with | [_, _], [], _, _ => rfl
        · exact call_of ⟨17, "_law_fraction", 2, [], [0, 1]⟩ rfl D1 Z.m__law_fraction rfl G1 (by decide) fun _ _ _ _ _ _ us ws h1 h2 => match us, ws, h1, h2 with | [_, _], [], _, _ => rfl
        · exact call_of ⟨14, "_law_lowest", 2, [], [0, 1]⟩ rfl D2 Z.m__law_lowest rfl G2 (by decide) fun _ _ _ _ _ _ us ws h1 h2 => match us, ws, h1, h2 with | [_, _], [], _, _ => rfl
      csts := fun c hc => by
        cases hc
    }
  obtain ⟨fd, F⟩ := Z.d__law_poly
  unfold F__law_poly
  exact ⟨fd, F, fn_run (l := ly K) (nc := nc__law_poly) F sc__law_poly gl ck__law_poly⟩
theorem g__law_value (Z : Facts K mg) : ∃ fd, FnP K "_law_value" (top 24) (He.ga K "_law_value") fd ∧ FnG P w K mg base 1 (He.ga K "_law_value") fd ["_law_poly_here", "_law_spot"] (spF (ly K) F__law_value 2) := by
  have gl : Glob P w mg base (ly K) nc__law_value fe__law_value :=
    { mgn := Z.gb
      gcd := fun h => nomatch h
      pats := fun p hp => by
        cases hp
      csts := fun c hc => by
        cases hc
    }
  obtain ⟨fd, F⟩ := Z.d__law_value
  unfold F__law_value
  exact ⟨fd, F, fn_run (l := ly K) (nc := nc__law_value) F sc__law_value gl ck__law_value⟩
theorem g__law_is_poly (Z : Facts K mg) : ∃ fd, FnP K "_law_is_poly" (top 25) (He.ga K "_law_is_poly") fd ∧ FnG P w K mg base 3 (He.ga K "_law_is_poly") fd ["_law_thing"] (spF (ly K) F__law_is_poly 1) := by
  obtain ⟨fd0, D0, G0⟩ := g__law_is_fraction (P := P) (w := w) (base := base) Z
  have gl : Glob P w mg base (ly K) nc__law_is_poly fe__law_is_poly :=
    { mgn := Z.gb
      gcd := fun h => nomatch h
      pats := fun p hp => by
        simp only [List.mem_cons, List.not_mem_nil, or_false] at hp
        rcases hp with rfl
        · exact call_of ⟨29, "_law_is_fraction", 1, [], [0]⟩ rfl D0 Z.m__law_is_fraction rfl G0 (by decide) fun _ _ _ _ _ _ us ws h1 h2 => match us, ws, h1, h2 with | [_], [], _, _ => rfl
      csts := fun c hc => by
        cases hc
    }
  obtain ⟨fd, F⟩ := Z.d__law_is_poly
  unfold F__law_is_poly
  exact ⟨fd, F, fn_run (l := ly K) (nc := nc__law_is_poly) F sc__law_is_poly gl ck__law_is_poly⟩
theorem g__law_spots (Z : Facts K mg) : ∃ fd, FnP K "_law_spots" (top 26) (He.ga K "_law_spots") fd ∧ FnG P w K mg base 3 (He.ga K "_law_spots") fd ["_law_source_here", "_law_many"] (spF (ly K) F__law_spots 2) := by
  obtain ⟨fd0, D0, G0⟩ := g__law_draw (P := P) (w := w) (base := base) Z
  obtain ⟨fd1, D1, G1⟩ := g__law_of (P := P) (w := w) (base := base) Z
  obtain ⟨fd2, D2, G2⟩ := g__law_lowest (P := P) (w := w) (base := base) Z
  have gl : Glob P w mg base (ly K) nc__law_spots fe__law_spots :=
    { mgn := Z.gb
      gcd := fun h => nomatch h
      pats := fun p hp => by
        simp only [List.mem_cons, List.not_mem_nil, or_false] at hp
        rcases hp with rfl | rfl | rfl
        · exact call_of ⟨0, "_law_draw", 2, [], [0, 1]⟩ rfl D0 Z.m__law_draw rfl G0 (by decide) fun _ _ _ _ _ _ us ws h1 h2 => match us, ws, h1, h2 with | [_, _], [], _, _ => rfl
        · exact call_of ⟨13, "_law_of", 2, [], [0, 1]⟩ rfl D1 Z.m__law_of rfl G1 (by decide) fun _ _ _ _ _ _ us ws h1 h2 => match us, ws, h1, h2 with | [_, _], [], _, _ => rfl
        · exact call_of ⟨14, "_law_lowest", 2, [], [0, 1]⟩ rfl D2 Z.m__law_lowest rfl G2 (by decide) fun _ _ _ _ _ _ us ws h1 h2 => match us, ws, h1, h2 with | [_, _], [], _, _ => rfl
      csts := fun c hc => by
        cases hc
    }
  obtain ⟨fd, F⟩ := Z.d__law_spots
  unfold F__law_spots
  exact ⟨fd, F, fn_run (l := ly K) (nc := nc__law_spots) F sc__law_spots gl ck__law_spots⟩
theorem g__law_is_made (Z : Facts K mg) : ∃ fd, FnP K "_law_is_made" (top 27) (He.ga K "_law_is_made") fd ∧ FnG P w K mg base 4 (He.ga K "_law_is_made") fd ["_law_found", "_law_size", "_law_spots_here", "_law_dues"] (spF (ly K) F__law_is_made 4) := by
  obtain ⟨fd0, D0, G0⟩ := g__law_is_poly (P := P) (w := w) (base := base) Z
  obtain ⟨fd1, D1, G1⟩ := g__law_value (P := P) (w := w) (base := base) Z
  have gl : Glob P w mg base (ly K) nc__law_is_made fe__law_is_made :=
    { mgn := Z.gb
      gcd := fun h => nomatch h
      pats := fun p hp => by
        simp only [List.mem_cons, List.not_mem_nil, or_false] at hp
        rcases hp with rfl | rfl
        · exact call_of ⟨30, "_law_is_poly", 1, [], [0]⟩ rfl D0 Z.m__law_is_poly rfl G0 (by decide) fun _ _ _ _ _ _ us ws h1 h2 => match us, ws, h1, h2 with | [_], [], _, _ => rfl
        · exact call_of ⟨20, "_law_value", 2, [], [0, 1]⟩ rfl D1 Z.m__law_value rfl G1 (by decide) fun _ _ _ _ _ _ us ws h1 h2 => match us, ws, h1, h2 with | [_, _], [], _, _ => rfl
      csts := fun c hc => by
        cases hc
    }
  obtain ⟨fd, F⟩ := Z.d__law_is_made
  unfold F__law_is_made
  exact ⟨fd, F, fn_run (l := ly K) (nc := nc__law_is_made) F sc__law_is_made gl ck__law_is_made⟩
theorem g__law_mate (Z : Facts K mg) : ∃ fd, FnP K "_law_mate" (top 28) (He.ga K "_law_mate") fd ∧ FnG P w K mg base 5 (He.ga K "_law_mate") fd ["_law_source_here", "_law_poly_here", "_law_size"] (spF (ly K) F__law_mate 3) := by
  obtain ⟨fd0, D0, G0⟩ := g__law_draw (P := P) (w := w) (base := base) Z
  obtain ⟨fd1, D1, G1⟩ := g__law_poly (P := P) (w := w) (base := base) Z
  obtain ⟨fd2, D2, G2⟩ := g__law_fraction (P := P) (w := w) (base := base) Z
  have gl : Glob P w mg base (ly K) nc__law_mate fe__law_mate :=
    { mgn := Z.gb
      gcd := fun h => nomatch h
      pats := fun p hp => by
        simp only [List.mem_cons, List.not_mem_nil, or_false] at hp
        rcases hp with rfl | rfl | rfl
        · exact call_of ⟨0, "_law_draw", 2, [], [0, 1]⟩ rfl D0 Z.m__law_draw rfl G0 (by decide) fun _ _ _ _ _ _ us ws h1 h2 => match us, ws, h1, h2 with | [_, _], [], _, _ => rfl
        · exact call_of ⟨18, "_law_poly", 3, [], [0, 1, 2]⟩ rfl D1 Z.m__law_poly rfl G1 (by decide) fun _ _ _ _ _ _ us ws h1 h2 => match us, ws, h1, h2 with | [_, _, _], [], _, _ => rfl
        · exact call_of ⟨17, "_law_fraction", 2, [], [0, 1]⟩ rfl D2 Z.m__law_fraction rfl G2 (by decide) fun _ _ _ _ _ _ us ws h1 h2 => match us, ws, h1, h2 with | [_, _], [], _, _ => rfl
      csts := fun c hc => by
        cases hc
    }
  obtain ⟨fd, F⟩ := Z.d__law_mate
  unfold F__law_mate
  exact ⟨fd, F, fn_run (l := ly K) (nc := nc__law_mate) F sc__law_mate gl ck__law_mate⟩
theorem g__law_is_sum (Z : Facts K mg) : ∃ fd, FnP K "_law_is_sum" (top 29) (He.ga K "_law_is_sum") fd ∧ FnG P w K mg base 5 (He.ga K "_law_is_sum") fd ["_law_source_here", "_law_poly_here", "_law_mate_here"] (spF (ly K) F__law_is_sum 3) := by
  obtain ⟨fd0, D0, G0⟩ := g__law_spots (P := P) (w := w) (base := base) Z
  obtain ⟨fd1, D1, G1⟩ := g__law_value (P := P) (w := w) (base := base) Z
  obtain ⟨fd2, D2, G2⟩ := g__law_is_made (P := P) (w := w) (base := base) Z
  obtain ⟨fd3, D3, G3⟩ := g_added (P := P) (w := w) (base := base) Z
  obtain ⟨fd4, D4, G4⟩ := g_added (P := P) (w := w) (base := base) Z
  obtain ⟨fd5, D5, G5⟩ := g_multiplied (P := P) (w := w) (base := base) Z
  obtain ⟨fd6, D6, G6⟩ := g_multiplied (P := P) (w := w) (base := base) Z
  have gl : Glob P w mg base (ly K) nc__law_is_sum fe__law_is_sum :=
    { mgn := Z.gb
      gcd := fun h => nomatch h
      pats := fun p hp => by
        simp only [List.mem_cons, List.not_mem_nil, or_false] at hp
        rcases hp with rfl | rfl | rfl | rfl | rfl | rfl | rfl
        · exact call_of ⟨31, "_law_spots", 2, [], [0, 1]⟩ rfl D0 Z.m__law_spots rfl G0 (by decide) fun _ _ _ _ _ _ us ws h1 h2 => match us, ws, h1, h2 with | [_, _], [], _, _ => rfl
        · exact call_of ⟨20, "_law_value", 2, [], [0, 1]⟩ rfl D1 Z.m__law_value rfl G1 (by decide) fun _ _ _ _ _ _ us ws h1 h2 => match us, ws, h1, h2 with | [_, _], [], _, _ => rfl
        · exact call_of ⟨32, "_law_is_made", 4, [], [0, 1, 2, 3]⟩ rfl D2 Z.m__law_is_made rfl G2 (by decide) fun _ _ _ _ _ _ us ws h1 h2 => match us, ws, h1, h2 with | [_, _, _, _], [], _, _ => rfl
        · exact call_of ⟨6, "added", 2, [], [0, 1]⟩ rfl D3 Z.m_added rfl G3 (by decide) fun _ _ _ _ _ _ us ws h1 h2 => match us, ws, h1, h2 with | [_, _], [], _, _ => rfl
        · exact call_of ⟨6, "added", 0, ["q", "p"], [1, 0]⟩ rfl D4 Z.m_added rfl G4 (by decide) fun _ _ _ _ _ _ us ws h1 h2 => match us, ws, h1, h2 with | [], [_, _], _, _ => rfl
        · exact call_of ⟨7, "multiplied", 0, ["q", "p"], [1, 0]⟩ rfl D5 Z.m_multiplied rfl G5 (by decide) fun _ _ _ _ _ _ us ws h1 h2 => match us, ws, h1, h2 with | [], [_, _], _, _ => rfl
        · exact call_of ⟨7, "multiplied", 2, [], [0, 1]⟩ rfl D6 Z.m_multiplied rfl G6 (by decide) fun _ _ _ _ _ _ us ws h1 h2 => match us, ws, h1, h2 with | [_, _], [], _, _ => rfl
      csts := fun c hc => by
        cases hc
    }
  obtain ⟨fd, F⟩ := Z.d__law_is_sum
  unfold F__law_is_sum
  exact ⟨fd, F, fn_run (l := ly K) (nc := nc__law_is_sum) F sc__law_is_sum gl ck__law_is_sum⟩
theorem g__law_is_scaled (Z : Facts K mg) : ∃ fd, FnP K "_law_is_scaled" (top 30) (He.ga K "_law_is_scaled") fd ∧ FnG P w K mg base 5 (He.ga K "_law_is_scaled") fd ["_law_source_here", "_law_poly_here", "_law_by"] (spF (ly K) F__law_is_scaled 3) := by
  obtain ⟨fd0, D0, G0⟩ := g__law_spots (P := P) (w := w) (base := base) Z
  obtain ⟨fd1, D1, G1⟩ := g__law_value (P := P) (w := w) (base := base) Z
  obtain ⟨fd2, D2, G2⟩ := g__law_is_made (P := P) (w := w) (base := base) Z
  obtain ⟨fd3, D3, G3⟩ := g_scaled (P := P) (w := w) (base := base) Z
  obtain ⟨fd4, D4, G4⟩ := g_shifted (P := P) (w := w) (base := base) Z
  obtain ⟨fd5, D5, G5⟩ := g_stretched (P := P) (w := w) (base := base) Z
  obtain ⟨fd6, D6, G6⟩ := g_scaled (P := P) (w := w) (base := base) Z
  obtain ⟨fd7, D7, G7⟩ := g_shifted (P := P) (w := w) (base := base) Z
  obtain ⟨fd8, D8, G8⟩ := g_stretched (P := P) (w := w) (base := base) Z
  have gl : Glob P w mg base (ly K) nc__law_is_scaled fe__law_is_scaled :=
    { mgn := Z.gb
      gcd := fun h => nomatch h
      pats := fun p hp => by
        simp only [List.mem_cons, List.not_mem_nil, or_false] at hp
        rcases hp with rfl | rfl | rfl | rfl | rfl | rfl | rfl | rfl | rfl
        · exact call_of ⟨31, "_law_spots", 2, [], [0, 1]⟩ rfl D0 Z.m__law_spots rfl G0 (by decide) fun _ _ _ _ _ _ us ws h1 h2 => match us, ws, h1, h2 with | [_, _], [], _, _ => rfl
        · exact call_of ⟨20, "_law_value", 2, [], [0, 1]⟩ rfl D1 Z.m__law_value rfl G1 (by decide) fun _ _ _ _ _ _ us ws h1 h2 => match us, ws, h1, h2 with | [_, _], [], _, _ => rfl
        · exact call_of ⟨32, "_law_is_made", 4, [], [0, 1, 2, 3]⟩ rfl D2 Z.m__law_is_made rfl G2 (by decide) fun _ _ _ _ _ _ us ws h1 h2 => match us, ws, h1, h2 with | [_, _, _, _], [], _, _ => rfl
        · exact call_of ⟨8, "scaled", 2, [], [0, 1]⟩ rfl D3 Z.m_scaled rfl G3 (by decide) fun _ _ _ _ _ _ us ws h1 h2 => match us, ws, h1, h2 with | [_, _], [], _, _ => rfl
        · exact call_of ⟨11, "shifted", 2, [], [0, 1]⟩ rfl D4 Z.m_shifted rfl G4 (by decide) fun _ _ _ _ _ _ us ws h1 h2 => match us, ws, h1, h2 with | [_, _], [], _, _ => rfl
        · exact call_of ⟨12, "stretched", 2, [], [0, 1]⟩ rfl D5 Z.m_stretched rfl G5 (by decide) fun _ _ _ _ _ _ us ws h1 h2 => match us, ws, h1, h2 with | [_, _], [], _, _ => rfl
        · exact call_of ⟨8, "scaled", 0, ["f", "p"], [1, 0]⟩ rfl D6 Z.m_scaled rfl G6 (by decide) fun _ _ _ _ _ _ us ws h1 h2 => match us, ws, h1, h2 with | [], [_, _], _, _ => rfl
        · exact call_of ⟨11, "shifted", 0, ["f", "p"], [1, 0]⟩ rfl D7 Z.m_shifted rfl G7 (by decide) fun _ _ _ _ _ _ us ws h1 h2 => match us, ws, h1, h2 with | [], [_, _], _, _ => rfl
        · exact call_of ⟨12, "stretched", 0, ["f", "p"], [1, 0]⟩ rfl D8 Z.m_stretched rfl G8 (by decide) fun _ _ _ _ _ _ us ws h1 h2 => match us, ws, h1, h2 with | [], [_, _], _, _ => rfl
      csts := fun c hc => by
        cases hc
    }
  obtain ⟨fd, F⟩ := Z.d__law_is_scaled
  unfold F__law_is_scaled
  exact ⟨fd, F, fn_run (l := ly K) (nc := nc__law_is_scaled) F sc__law_is_scaled gl ck__law_is_scaled⟩
theorem g__law_is_back (Z : Facts K mg) : ∃ fd, FnP K "_law_is_back" (top 31) (He.ga K "_law_is_back") fd ∧ FnG P w K mg base 4 (He.ga K "_law_is_back") fd ["_law_poly_here", "_law_mate_here", "_law_by"] (spF (ly K) F__law_is_back 3) := by
  obtain ⟨fd0, D0, G0⟩ := g_shifted (P := P) (w := w) (base := base) Z
  obtain ⟨fd1, D1, G1⟩ := g_added (P := P) (w := w) (base := base) Z
  obtain ⟨fd2, D2, G2⟩ := g_scaled (P := P) (w := w) (base := base) Z
  obtain ⟨fd3, D3, G3⟩ := g_multiplied (P := P) (w := w) (base := base) Z
  obtain ⟨fd4, D4, G4⟩ := g_stretched (P := P) (w := w) (base := base) Z
  obtain ⟨fd5, D5, G5⟩ := g__law_lowest (P := P) (w := w) (base := base) Z
  have gl : Glob P w mg base (ly K) nc__law_is_back fe__law_is_back :=
    { mgn := Z.gb
      gcd := fun h => nomatch h
      pats := fun p hp => by
        simp only [List.mem_cons, List.not_mem_nil, or_false] at hp
        rcases hp with rfl | rfl | rfl | rfl | rfl | rfl
        · exact call_of ⟨11, "shifted", 2, [], [0, 1]⟩ rfl D0 Z.m_shifted rfl G0 (by decide) fun _ _ _ _ _ _ us ws h1 h2 => match us, ws, h1, h2 with | [_, _], [], _, _ => rfl
        · exact call_of ⟨6, "added", 2, [], [0, 1]⟩ rfl D1 Z.m_added rfl G1 (by decide) fun _ _ _ _ _ _ us ws h1 h2 => match us, ws, h1, h2 with | [_, _], [], _, _ => rfl
        · exact call_of ⟨8, "scaled", 2, [], [0, 1]⟩ rfl D2 Z.m_scaled rfl G2 (by decide) fun _ _ _ _ _ _ us ws h1 h2 => match us, ws, h1, h2 with | [_, _], [], _, _ => rfl
        · exact call_of ⟨7, "multiplied", 2, [], [0, 1]⟩ rfl D3 Z.m_multiplied rfl G3 (by decide) fun _ _ _ _ _ _ us ws h1 h2 => match us, ws, h1, h2 with | [_, _], [], _, _ => rfl
        · exact call_of ⟨12, "stretched", 2, [], [0, 1]⟩ rfl D4 Z.m_stretched rfl G4 (by decide) fun _ _ _ _ _ _ us ws h1 h2 => match us, ws, h1, h2 with | [_, _], [], _, _ => rfl
        · exact call_of ⟨14, "_law_lowest", 2, [], [0, 1]⟩ rfl D5 Z.m__law_lowest rfl G5 (by decide) fun _ _ _ _ _ _ us ws h1 h2 => match us, ws, h1, h2 with | [_, _], [], _, _ => rfl
      csts := fun c hc => by
        cases hc
    }
  obtain ⟨fd, F⟩ := Z.d__law_is_back
  unfold F__law_is_back
  exact ⟨fd, F, fn_run (l := ly K) (nc := nc__law_is_back) F sc__law_is_back gl ck__law_is_back⟩
theorem g__law_is_at (Z : Facts K mg) : ∃ fd, FnP K "_law_is_at" (top 32) (He.ga K "_law_is_at") fd ∧ FnG P w K mg base 4 (He.ga K "_law_is_at") fd ["_law_poly_here", "_law_spot"] (spF (ly K) F__law_is_at 2) := by
  obtain ⟨fd0, D0, G0⟩ := g__law_value (P := P) (w := w) (base := base) Z
  obtain ⟨fd1, D1, G1⟩ := g_at (P := P) (w := w) (base := base) Z
  obtain ⟨fd2, D2, G2⟩ := g_at (P := P) (w := w) (base := base) Z
  obtain ⟨fd3, D3, G3⟩ := g__law_lowest (P := P) (w := w) (base := base) Z
  have gl : Glob P w mg base (ly K) nc__law_is_at fe__law_is_at :=
    { mgn := Z.gb
      gcd := fun h => nomatch h
      pats := fun p hp => by
        simp only [List.mem_cons, List.not_mem_nil, or_false] at hp
        rcases hp with rfl | rfl | rfl | rfl
        · exact call_of ⟨20, "_law_value", 2, [], [0, 1]⟩ rfl D0 Z.m__law_value rfl G0 (by decide) fun _ _ _ _ _ _ us ws h1 h2 => match us, ws, h1, h2 with | [_, _], [], _, _ => rfl
        · exact call_of ⟨5, "at", 2, [], [0, 1]⟩ rfl D1 Z.m_at rfl G1 (by decide) fun _ _ _ _ _ _ us ws h1 h2 => match us, ws, h1, h2 with | [_, _], [], _, _ => rfl
        · exact call_of ⟨5, "at", 0, ["f", "p"], [1, 0]⟩ rfl D2 Z.m_at rfl G2 (by decide) fun _ _ _ _ _ _ us ws h1 h2 => match us, ws, h1, h2 with | [], [_, _], _, _ => rfl
        · exact call_of ⟨14, "_law_lowest", 2, [], [0, 1]⟩ rfl D3 Z.m__law_lowest rfl G3 (by decide) fun _ _ _ _ _ _ us ws h1 h2 => match us, ws, h1, h2 with | [_, _], [], _, _ => rfl
      csts := fun c hc => by
        cases hc
    }
  obtain ⟨fd, F⟩ := Z.d__law_is_at
  unfold F__law_is_at
  exact ⟨fd, F, fn_run (l := ly K) (nc := nc__law_is_at) F sc__law_is_at gl ck__law_is_at⟩
theorem g_law (good : ex fe_law noX b_law (ρLaw (n_law.length - 2)) fun fl => fl = .rt (.d (.bool true))) (Z : Facts K mg) : ∃ fd, FnP K "law" (top 33) (He.ga K "law") fd ∧ FnG P w K mg base 6 (He.ga K "law") fd ["_law_script"] (spLaw K) := by
  obtain ⟨fd0, D0, G0⟩ := g__law_poly (P := P) (w := w) (base := base) Z
  obtain ⟨fd1, D1, G1⟩ := g__law_draw (P := P) (w := w) (base := base) Z
  obtain ⟨fd2, D2, G2⟩ := g__law_mate (P := P) (w := w) (base := base) Z
  obtain ⟨fd3, D3, G3⟩ := g__law_of (P := P) (w := w) (base := base) Z
  obtain ⟨fd4, D4, G4⟩ := g__law_fraction (P := P) (w := w) (base := base) Z
  obtain ⟨fd5, D5, G5⟩ := g__law_is_sum (P := P) (w := w) (base := base) Z
  obtain ⟨fd6, D6, G6⟩ := g__law_is_scaled (P := P) (w := w) (base := base) Z
  obtain ⟨fd7, D7, G7⟩ := g__law_is_at (P := P) (w := w) (base := base) Z
  obtain ⟨fd8, D8, G8⟩ := g__law_is_back (P := P) (w := w) (base := base) Z
  obtain ⟨fd9, D9, G9⟩ := g_added (P := P) (w := w) (base := base) Z
  obtain ⟨fd10, D10, G10⟩ := g_multiplied (P := P) (w := w) (base := base) Z
  obtain ⟨fd11, D11, G11⟩ := g_shifted (P := P) (w := w) (base := base) Z
  obtain ⟨fd12, D12, G12⟩ := g_stretched (P := P) (w := w) (base := base) Z
  have gl : Glob P w mg base (ly K) nc_law fe_law :=
    { mgn := Z.gb
      gcd := fun h => nomatch h
      pats := fun p hp => by
        simp only [List.mem_cons, List.not_mem_nil, or_false] at hp
        rcases hp with rfl | rfl | rfl | rfl | rfl | rfl | rfl | rfl | rfl | rfl | rfl | rfl | rfl
        · exact call_of ⟨18, "_law_poly", 3, [], [0, 1, 2]⟩ rfl D0 Z.m__law_poly rfl G0 (by decide) fun _ _ _ _ _ _ us ws h1 h2 => match us, ws, h1, h2 with | [_, _, _], [], _, _ => rfl
        · exact call_of ⟨0, "_law_draw", 2, [], [0, 1]⟩ rfl D1 Z.m__law_draw rfl G1 (by decide) fun _ _ _ _ _ _ us ws h1 h2 => match us, ws, h1, h2 with | [_, _], [], _, _ => rfl
        · exact call_of ⟨33, "_law_mate", 3, [], [0, 1, 2]⟩ rfl D2 Z.m__law_mate rfl G2 (by decide) fun _ _ _ _ _ _ us ws h1 h2 => match us, ws, h1, h2 with | [_, _, _], [], _, _ => rfl
        · exact call_of ⟨13, "_law_of", 2, [], [0, 1]⟩ rfl D3 Z.m__law_of rfl G3 (by decide) fun _ _ _ _ _ _ us ws h1 h2 => match us, ws, h1, h2 with | [_, _], [], _, _ => rfl
        · exact call_of ⟨17, "_law_fraction", 2, [], [0, 1]⟩ rfl D4 Z.m__law_fraction rfl G4 (by decide) fun _ _ _ _ _ _ us ws h1 h2 => match us, ws, h1, h2 with | [_, _], [], _, _ => rfl
        · exact call_of ⟨34, "_law_is_sum", 3, [], [0, 1, 2]⟩ rfl D5 Z.m__law_is_sum rfl G5 (by decide) fun _ _ _ _ _ _ us ws h1 h2 => match us, ws, h1, h2 with | [_, _, _], [], _, _ => rfl
        · exact call_of ⟨35, "_law_is_scaled", 3, [], [0, 1, 2]⟩ rfl D6 Z.m__law_is_scaled rfl G6 (by decide) fun _ _ _ _ _ _ us ws h1 h2 => match us, ws, h1, h2 with | [_, _, _], [], _, _ => rfl
        · exact call_of ⟨26, "_law_is_at", 2, [], [0, 1]⟩ rfl D7 Z.m__law_is_at rfl G7 (by decide) fun _ _ _ _ _ _ us ws h1 h2 => match us, ws, h1, h2 with | [_, _], [], _, _ => rfl
        · exact call_of ⟨36, "_law_is_back", 3, [], [0, 1, 2]⟩ rfl D8 Z.m__law_is_back rfl G8 (by decide) fun _ _ _ _ _ _ us ws h1 h2 => match us, ws, h1, h2 with | [_, _, _], [], _, _ => rfl
        · exact call_of ⟨6, "added", 2, [], [0, 1]⟩ rfl D9 Z.m_added rfl G9 (by decide) fun _ _ _ _ _ _ us ws h1 h2 => match us, ws, h1, h2 with | [_, _], [], _, _ => rfl
        · exact call_of ⟨7, "multiplied", 2, [], [0, 1]⟩ rfl D10 Z.m_multiplied rfl G10 (by decide) fun _ _ _ _ _ _ us ws h1 h2 => match us, ws, h1, h2 with | [_, _], [], _, _ => rfl
        · exact call_of ⟨11, "shifted", 2, [], [0, 1]⟩ rfl D11 Z.m_shifted rfl G11 (by decide) fun _ _ _ _ _ _ us ws h1 h2 => match us, ws, h1, h2 with | [_, _], [], _, _ => rfl
        · exact call_of ⟨12, "stretched", 2, [], [0, 1]⟩ rfl D12 Z.m_stretched rfl G12 (by decide) fun _ _ _ _ _ _ us ws h1 h2 => match us, ws, h1, h2 with | [_, _], [], _, _ => rfl
      csts := fun c hc => by
        cases hc
    }
  obtain ⟨fd, F⟩ := Z.d_law
  obtain ⟨fdS, FS⟩ := Z.d__law_source
  exact ⟨fd, F, law_fn (l := ly K) (nc := nc_law) (j := 1) rfl F sc_law gl rfl rfl rfl (by decide +kernel) (by decide +kernel) (by decide +kernel) Z.m__law_source FS.kp (ok_source FS Z.gb) (by decide) (kb_of FS fun _ _ _ _ _ _ us ws h1 h2 => match us, ws, h1, h2 with | [_], [], _, _ => rfl) ck_law good⟩
end
/-! ### the head -/
def d_lowest : He.DefD := ⟨("lowest", none), "lowest", "lowest", defArgs (top 4), defBody (top 4), defScope (top 4), [], []⟩
def d_plus : He.DefD := ⟨("plus", none), "plus", "plus", defArgs (top 5), defBody (top 5), defScope (top 5), [], []⟩
def d_times : He.DefD := ⟨("times", none), "times", "times", defArgs (top 6), defBody (top 6), defScope (top 6), [], []⟩
def d_trimmed : He.DefD := ⟨("trimmed", none), "trimmed", "trimmed", defArgs (top 8), defBody (top 8), defScope (top 8), [], []⟩
def d_at : He.DefD := ⟨("at", none), "at", "at", defArgs (top 9), defBody (top 9), defScope (top 9), [], []⟩
def d_added : He.DefD := ⟨("added", none), "added", "added", defArgs (top 10), defBody (top 10), defScope (top 10), [], []⟩
def d_multiplied : He.DefD := ⟨("multiplied", none), "multiplied", "multiplied", defArgs (top 11), defBody (top 11), defScope (top 11), [], []⟩
def d_scaled : He.DefD := ⟨("scaled", none), "scaled", "scaled", defArgs (top 12), defBody (top 12), defScope (top 12), [], []⟩
def d_shifted : He.DefD := ⟨("shifted", none), "shifted", "shifted", defArgs (top 13), defBody (top 13), defScope (top 13), [], []⟩
def d_stretched : He.DefD := ⟨("stretched", none), "stretched", "stretched", defArgs (top 14), defBody (top 14), defScope (top 14), [], []⟩
def d__law_source : He.DefD := ⟨("_law_source", none), "_law_source", "_law_source", defArgs (top 16), defBody (top 16), defScope (top 16), [], []⟩
def d__law_draw : He.DefD := ⟨("_law_draw", none), "_law_draw", "_law_draw", defArgs (top 17), defBody (top 17), defScope (top 17), [], []⟩
def d__law_of : He.DefD := ⟨("_law_of", none), "_law_of", "_law_of", defArgs (top 18), defBody (top 18), defScope (top 18), [], []⟩
def d__law_divisor : He.DefD := ⟨("_law_divisor", none), "_law_divisor", "_law_divisor", defArgs (top 19), defBody (top 19), defScope (top 19), [], []⟩
def d__law_is_fraction : He.DefD := ⟨("_law_is_fraction", none), "_law_is_fraction", "_law_is_fraction", defArgs (top 20), defBody (top 20), defScope (top 20), [], []⟩
def d__law_lowest : He.DefD := ⟨("_law_lowest", none), "_law_lowest", "_law_lowest", defArgs (top 21), defBody (top 21), defScope (top 21), [], []⟩
def d__law_fraction : He.DefD := ⟨("_law_fraction", none), "_law_fraction", "_law_fraction", defArgs (top 22), defBody (top 22), defScope (top 22), [], []⟩
def d__law_poly : He.DefD := ⟨("_law_poly", none), "_law_poly", "_law_poly", defArgs (top 23), defBody (top 23), defScope (top 23), [], []⟩
def d__law_value : He.DefD := ⟨("_law_value", none), "_law_value", "_law_value", defArgs (top 24), defBody (top 24), defScope (top 24), [], []⟩
def d__law_is_poly : He.DefD := ⟨("_law_is_poly", none), "_law_is_poly", "_law_is_poly", defArgs (top 25), defBody (top 25), defScope (top 25), [], []⟩
def d__law_spots : He.DefD := ⟨("_law_spots", none), "_law_spots", "_law_spots", defArgs (top 26), defBody (top 26), defScope (top 26), [], []⟩
def d__law_is_made : He.DefD := ⟨("_law_is_made", none), "_law_is_made", "_law_is_made", defArgs (top 27), defBody (top 27), defScope (top 27), [], []⟩
def d__law_mate : He.DefD := ⟨("_law_mate", none), "_law_mate", "_law_mate", defArgs (top 28), defBody (top 28), defScope (top 28), [], []⟩
def d__law_is_sum : He.DefD := ⟨("_law_is_sum", none), "_law_is_sum", "_law_is_sum", defArgs (top 29), defBody (top 29), defScope (top 29), [], []⟩
def d__law_is_scaled : He.DefD := ⟨("_law_is_scaled", none), "_law_is_scaled", "_law_is_scaled", defArgs (top 30), defBody (top 30), defScope (top 30), [], []⟩
def d__law_is_back : He.DefD := ⟨("_law_is_back", none), "_law_is_back", "_law_is_back", defArgs (top 31), defBody (top 31), defScope (top 31), [], []⟩
def d__law_is_at : He.DefD := ⟨("_law_is_at", none), "_law_is_at", "_law_is_at", defArgs (top 32), defBody (top 32), defScope (top 32), [], []⟩
def d_law : He.DefD := ⟨("law", none), "law", "law", defArgs (top 33), defBody (top 33), defScope (top 33), [], []⟩
def fn : List He.DefD := [d_lowest, d_plus, d_times, d_trimmed, d_at, d_added, d_multiplied, d_scaled, d_shifted, d_stretched, d__law_source, d__law_draw, d__law_of, d__law_divisor, d__law_is_fraction, d__law_lowest, d__law_fraction, d__law_poly, d__law_value, d__law_is_poly, d__law_spots, d__law_is_made, d__law_mate, d__law_is_sum, d__law_is_scaled, d__law_is_back, d__law_is_at, d_law]
def fa : List He.Fa := [.free "len", .free "int", .free "abs", .free "repr", .free "list", .free "tuple", .free "all", .free "any", .free "isinstance", .free "max", .free "min", .free "range", .free "enumerate", .free "zip", .free "reversed", .free "bool", .free "str", .free "divmod", .glo "lowest", .glo "plus", .glo "times", .glo "trimmed", .glo "at", .glo "added", .glo "multiplied", .glo "scaled", .glo "shifted", .glo "stretched", .glo "_law_source", .glo "_law_draw", .glo "_law_of", .glo "_law_divisor", .glo "_law_is_fraction", .glo "_law_lowest", .glo "_law_fraction", .glo "_law_poly", .glo "_law_value", .glo "_law_is_poly", .glo "_law_spots", .glo "_law_is_made", .glo "_law_mate", .glo "_law_is_sum", .glo "_law_is_scaled", .glo "_law_is_back", .glo "_law_is_at", .glo "law", .glo "NOUGHT", .glo "ONE"]
def exb (K : PySem.W.Frag) : Bool := He.eqO (PySem.W.nsIn K mainGlobals "gcd") (some (some (.builtin "math.gcd"))) && He.tupB K "NOUGHT" ([0, 1].map He.Dv.int) && He.tupB K "ONE" ([1, 1].map He.Dv.int)
abbrev R : PySem.W.OpenRow := PySem.W.OpenLaw.row PySem.Challenge.rw_unsureworks_k03_polynomials_by_their_val
abbrev hk : PySem.W.Hook := hookU 4 fa fn exb
def ob (s : PySem.W.SharedT) : He.AlD := obsU 4 fa fn exb (HandSHeadRun.getT s)
theorem ob_eq (s : PySem.W.SharedT) : ob s = hk.obs s.abs := obsU_eq (HandSHeadRun.getT_eq s)
theorem run (w : World) : HeadRun.RunEqI R (PySem.W.view R.prog [0, 2, 3, 4, 5, 6, 8, 9, 10, 11, 12, 13, 14, 16, 17, 18, 19, 20, 21, 22, 23, 24, 25, 26, 27, 28, 29, 30, 31, 32, 33]) hk ob 6000 [] w := by
  unfold HeadRun.RunEqI
  kernel_rfl
theorem facts {K : PySem.W.Frag} {h : Heap} {mg : Str → Option Value} (X : K.In h) (G : h.Ns mainGlobals mg) (c : He.SaysD fa fn K) (e : exb K = true) : Facts K mg := by
  unfold exb at e
  simp only [Bool.and_eq_true] at e
  obtain ⟨⟨e0, e1⟩, e2⟩ := e
  exact {
    gb := fun x hx => by
      simp only [bltNames, List.mem_cons, List.not_mem_nil, or_false] at hx
      rcases hx with rfl | rfl | rfl | rfl | rfl | rfl | rfl | rfl | rfl | rfl | rfl | rfl | rfl | rfl | rfl | rfl | rfl
      · exact He.free_ok X G (c.fact 0 (f := .free "len") rfl)
      · exact He.free_ok X G (c.fact 1 (f := .free "int") rfl)
      · exact He.free_ok X G (c.fact 2 (f := .free "abs") rfl)
      · exact He.free_ok X G (c.fact 3 (f := .free "repr") rfl)
      · exact He.free_ok X G (c.fact 4 (f := .free "list") rfl)
      · exact He.free_ok X G (c.fact 5 (f := .free "tuple") rfl)
      · exact He.free_ok X G (c.fact 6 (f := .free "all") rfl)
      · exact He.free_ok X G (c.fact 7 (f := .free "any") rfl)
      · exact He.free_ok X G (c.fact 8 (f := .free "isinstance") rfl)
      · exact He.free_ok X G (c.fact 9 (f := .free "max") rfl)
      · exact He.free_ok X G (c.fact 10 (f := .free "min") rfl)
      · exact He.free_ok X G (c.fact 11 (f := .free "range") rfl)
      · exact He.free_ok X G (c.fact 12 (f := .free "enumerate") rfl)
      · exact He.free_ok X G (c.fact 13 (f := .free "zip") rfl)
      · exact He.free_ok X G (c.fact 14 (f := .free "reversed") rfl)
      · exact He.free_ok X G (c.fact 15 (f := .free "bool") rfl)
      · exact He.free_ok X G (c.fact 16 (f := .free "str") rfl)
    dm := He.free_ok X G (c.fact 17 (f := .free "divmod") rfl)
    gcd := PySem.W.mg_of X G (He.eqO_ok e0)
    c_NOUGHT := cst_ints [0, 1] X G (c.fact 46 (f := .glo "NOUGHT") rfl) e1
    c_ONE := cst_ints [1, 1] X G (c.fact 47 (f := .glo "ONE") rfl) e2
    d_lowest := c.def_ 0 (d := d_lowest) rfl
    m_lowest := He.glo_ok X G (c.fact 18 (f := .glo "lowest") rfl)
    d_plus := c.def_ 1 (d := d_plus) rfl
    m_plus := He.glo_ok X G (c.fact 19 (f := .glo "plus") rfl)
    d_times := c.def_ 2 (d := d_times) rfl
    m_times := He.glo_ok X G (c.fact 20 (f := .glo "times") rfl)
    d_trimmed := c.def_ 3 (d := d_trimmed) rfl
    m_trimmed := He.glo_ok X G (c.fact 21 (f := .glo "trimmed") rfl)
    d_at := c.def_ 4 (d := d_at) rfl
    m_at := He.glo_ok X G (c.fact 22 (f := .glo "at") rfl)
    d_added := c.def_ 5 (d := d_added) rfl
    m_added := He.glo_ok X G (c.fact 23 (f := .glo "added") rfl)
    d_multiplied := c.def_ 6 (d := d_multiplied) rfl
    m_multiplied := He.glo_ok X G (c.fact 24 (f := .glo "multiplied") rfl)
    d_scaled := c.def_ 7 (d := d_scaled) rfl
    m_scaled := He.glo_ok X G (c.fact 25 (f := .glo "scaled") rfl)
    d_shifted := c.def_ 8 (d := d_shifted) rfl
    m_shifted := He.glo_ok X G (c.fact 26 (f := .glo "shifted") rfl)
    d_stretched := c.def_ 9 (d := d_stretched) rfl
    m_stretched := He.glo_ok X G (c.fact 27 (f := .glo "stretched") rfl)
    d__law_source := c.def_ 10 (d := d__law_source) rfl
    m__law_source := He.glo_ok X G (c.fact 28 (f := .glo "_law_source") rfl)
    d__law_draw := c.def_ 11 (d := d__law_draw) rfl
    m__law_draw := He.glo_ok X G (c.fact 29 (f := .glo "_law_draw") rfl)
    d__law_of := c.def_ 12 (d := d__law_of) rfl
    m__law_of := He.glo_ok X G (c.fact 30 (f := .glo "_law_of") rfl)
    d__law_divisor := c.def_ 13 (d := d__law_divisor) rfl
    m__law_divisor := He.glo_ok X G (c.fact 31 (f := .glo "_law_divisor") rfl)
    d__law_is_fraction := c.def_ 14 (d := d__law_is_fraction) rfl
    m__law_is_fraction := He.glo_ok X G (c.fact 32 (f := .glo "_law_is_fraction") rfl)
    d__law_lowest := c.def_ 15 (d := d__law_lowest) rfl
    m__law_lowest := He.glo_ok X G (c.fact 33 (f := .glo "_law_lowest") rfl)
    d__law_fraction := c.def_ 16 (d := d__law_fraction) rfl
    m__law_fraction := He.glo_ok X G (c.fact 34 (f := .glo "_law_fraction") rfl)
    d__law_poly := c.def_ 17 (d := d__law_poly) rfl
    m__law_poly := He.glo_ok X G (c.fact 35 (f := .glo "_law_poly") rfl)
    d__law_value := c.def_ 18 (d := d__law_value) rfl
    m__law_value := He.glo_ok X G (c.fact 36 (f := .glo "_law_value") rfl)
    d__law_is_poly := c.def_ 19 (d := d__law_is_poly) rfl
    m__law_is_poly := He.glo_ok X G (c.fact 37 (f := .glo "_law_is_poly") rfl)
    d__law_spots := c.def_ 20 (d := d__law_spots) rfl
    m__law_spots := He.glo_ok X G (c.fact 38 (f := .glo "_law_spots") rfl)
    d__law_is_made := c.def_ 21 (d := d__law_is_made) rfl
    m__law_is_made := He.glo_ok X G (c.fact 39 (f := .glo "_law_is_made") rfl)
    d__law_mate := c.def_ 22 (d := d__law_mate) rfl
    m__law_mate := He.glo_ok X G (c.fact 40 (f := .glo "_law_mate") rfl)
    d__law_is_sum := c.def_ 23 (d := d__law_is_sum) rfl
    m__law_is_sum := He.glo_ok X G (c.fact 41 (f := .glo "_law_is_sum") rfl)
    d__law_is_scaled := c.def_ 24 (d := d__law_is_scaled) rfl
    m__law_is_scaled := He.glo_ok X G (c.fact 42 (f := .glo "_law_is_scaled") rfl)
    d__law_is_back := c.def_ 25 (d := d__law_is_back) rfl
    m__law_is_back := He.glo_ok X G (c.fact 43 (f := .glo "_law_is_back") rfl)
    d__law_is_at := c.def_ 26 (d := d__law_is_at) rfl
    m__law_is_at := He.glo_ok X G (c.fact 44 (f := .glo "_law_is_at") rfl)
    d_law := c.def_ 27 (d := d_law) rfl
    m_law := He.glo_ok X G (c.fact 45 (f := .glo "law") rfl)
  }
end Lk03
open PySem PySem.W PySem.Calls PyProof.Rows
theorem PySem.Challenge.cw_unsureworks_k03_polynomials_by_their_val_holds : PySem.Challenge.rw_unsureworks_k03_polynomials_by_their_val.Holds := by
  w_on; o_law
  refine HeadRun.head_imp (r := OpenLaw.row PySem.Challenge.rw_unsureworks_k03_polynomials_by_their_val) (q := view (OpenLaw.row PySem.Challenge.rw_unsureworks_k03_polynomials_by_their_val).prog [0, 2, 3, 4, 5, 6, 8, 9, 10, 11, 12, 13, 14, 16, 17, 18, 19, 20, 21, 22, 23, 24, 25, 26, 27, 28, 29, 30, 31, 32, 33]) (H := Lk03.hk) (ob := Lk03.ob) (M := 6000) (loose := []) (d := HandSHeadRun.topDef (OpenLaw.row PySem.Challenge.rw_unsureworks_k03_polynomials_by_their_val).prog 33) (kwd := []) Lk03.ob_eq
    Lk03.run (by kernel_rfl) (by kernel_rfl) (by kernel_rfl) (by rfl) (by first | assumption | decide +kernel) (by decide +kernel) ⟨rfl, rfl, rfl, rfl, rfl, by decide +kernel⟩ ?hw ?hc
  case hw => w_witness2
  case hc =>
    refine Un.walk_ofU (l := PySem.Challenge.rw_unsureworks_k03_polynomials_by_their_val) (n := 63) (k := 6) (x := "_law_script") rfl (by decide) (by kernel_rfl) ⟨⟨rfl, by decide, by decide⟩, rfl⟩ ?F
    intro w mg fa h Y G hmg0
    obtain ⟨K, KX, c, ce⟩ := Y
    have Z := Lk03.facts KX G c ce
    have hmg : mg ("law" : PySem.Str) = some (.ref fa) := by
      have e : (HandSHeadRun.topDef (OpenLaw.row PySem.Challenge.rw_unsureworks_k03_polynomials_by_their_val).prog 33).name = ("law" : PySem.Str) := by kernel_rfl
      rw [← e]
      exact hmg0
    have efa := Z.m_law.symm.trans hmg
    cases efa
    obtain ⟨fd, F⟩ := Z.d_law
    have hb := L2.FunD.bindsA (ps := ["_law_script"]) F fun _ _ _ _ _ _ us hl => match us, hl with | [_], _ => rfl
    refine ⟨K, fd, Un.spLaw K, KX, fun s v => hb s [v] rfl, fun H a ns hl _ hS => ⟨a, ns, rfl, hS, hl, fun _ => rfl⟩, fun base _ _ => ?_⟩
    obtain ⟨fd2, F2, G2⟩ := Lk03.g_law (P := (PySem.Challenge.rw_unsureworks_k03_polynomials_by_their_val).prog) (w := w) (base := base) Lk03.law_good Z
    have efd := Un.fd_same F F2
    subst efd
    exact G2
end
